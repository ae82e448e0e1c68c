import PyProof.Rows.All
import Wide.All
import OpenK.AllK
import Wide.FinOn
import HandS.ForMost
import HandS.Lambda
import HandS.SortInts
import HandS.Wide
import HandS.Style
import HandS.Deep
import HandS.IsInst
import HandS.TupAny
import HandS.TupMul
import HandS.Zip
import HandS.Words
import PySem.Challenge.RW_tiledwhole_k15_whole_rods_of_eight_lengt
set_option Elab.async false
set_option linter.all false
set_option maxRecDepth 100000
set_option exponentiation.threshold 3000
/-! DLa: data trees D over the abstract heap, what a value bears (Rp), environments of data (DEnv), what a frame's slots bear (Sat). -/
namespace DL
open PySem PySem.Spec PyProof.Rows L2

inductive D where
  | non | bl (b : Bool) | int (i : Int) | str (x : Str)
  | lst (xs : List D) | tup (xs : List D)
  | dk (ks : List Key) (vs : List D)
  | dt (ks : List (List Key)) (vs : List D)
  | fn (a : Addr)
  | ty (n : String)
  | ro (xs : List D)

/-- an object of the module that is a list, a tuple of such values -/
def KL (K : PySem.W.Frag) (a : Addr) (xs : List V) : Prop :=
  ∃ (o : Obj) (its : Array Value) (n : Nat), K.lookup a = some o ∧ o.cls = .type "list" ∧ o.dict = none ∧ o.data = .seq its n ∧ its.size ≤ sizeLine ∧ Vals xs its.toList
def KT (K : PySem.W.Frag) (a : Addr) (xs : List V) : Prop :=
  ∃ (o : Obj) (its : Array Value) (n : Nat), K.lookup a = some o ∧ o.cls = .type "tuple" ∧ o.data = .seq its n ∧ its.size ≤ sizeLine ∧ Vals xs its.toList
/-- read at a, a no address of S -/
def ML (K : PySem.W.Frag) (H : Hp) (S : Addr → Prop) (a : Addr) (xs : List V) : Prop := ¬ S a ∧ H a = some (.lst xs)
def MR (K : PySem.W.Frag) (H : Hp) (S : Addr → Prop) (a : Addr) (xs : List V) : Prop := (¬ S a ∧ ∃ o, H a = some (.frz o (.lst xs))) ∨ KL K a xs
def MT (K : PySem.W.Frag) (H : Hp) (S : Addr → Prop) (a : Addr) (xs : List V) : Prop := (¬ S a ∧ Rd H a (.tup xs)) ∨ KT K a xs

mutual
inductive Rp (K : PySem.W.Frag) (H : Hp) (S : Addr → Prop) : V → D → Prop
  | non : Rp K H S .non .non
  | bl (b : Bool) : Rp K H S (.bl b) (.bl b)
  | int (i : Int) : Rp K H S (.int i) (.int i)
  | str (x : Str) : Rp K H S (.str x) (.str x)
  | lst {a : Addr} {xs : List V} {ds : List D} : ML K H S a xs → RpA K H S xs ds → Rp K H S (.ref a) (.lst ds)
  | tup {a : Addr} {xs : List V} {ds : List D} : MT K H S a xs → RpA K H S xs ds → Rp K H S (.ref a) (.tup ds)
  | dk {a : Addr} {kvs : List (Key × V)} {ds : List D} : ¬ S a → Rd H a (.dK kvs) → RpA K H S (kvs.map (·.2)) ds → Rp K H S (.ref a) (.dk (kvs.map (·.1)) ds)
  | dt {a : Addr} {kvs : List (List Key × V)} {ds : List D} : ¬ S a → Rd H a (.dT kvs) → RpA K H S (kvs.map (·.2)) ds → Rp K H S (.ref a) (.dt (kvs.map (·.1)) ds)
  | fn (a : Addr) : Rp K H S (.ref a) (.fn a)
  | ty (n : String) : Rp K H S (.ty n) (.ty n)
  | ro {a : Addr} {xs : List V} {ds : List D} : MR K H S a xs → RpA K H S xs ds → Rp K H S (.ref a) (.ro ds)
inductive RpA (K : PySem.W.Frag) (H : Hp) (S : Addr → Prop) : List V → List D → Prop
  | nil : RpA K H S [] []
  | cons {v : V} {d : D} {vs : List V} {ds : List D} : Rp K H S v d → RpA K H S vs ds → RpA K H S (v :: vs) (d :: ds)
end

section
variable {K : PySem.W.Frag} {H H' : Hp} {S S' M : Addr → Prop} {v : V} {d : D} {vs : List V} {ds : List D}

/-- all but M stays -/
def Ev (M : Addr → Prop) (H H' : Hp) : Prop := ∀ a o, H a = some o → ¬ M a → H' a = some o
theorem Ev.refl : Ev M H H := fun _ _ h _ => h
theorem Ev.trans {M1 : Addr → Prop} {H1 H2 : Hp} (a : Ev M H H1) (b : Ev M1 H1 H2) (h : ∀ x, M1 x → M x ∨ H x = none) : Ev M H H2 := fun x o e n =>
  b x o (a x o e n) fun m => (h x m).elim n fun z => by rw [e] at z; cases z
theorem Ev.mono {M' : Addr → Prop} (a : Ev M H H') (h : ∀ x, M x → M' x ∨ H x = none) : Ev M' H H' := fun x o e n => a x o e fun m => (h x m).elim n fun z => by rw [e] at z; cases z
theorem Ev.new {p : Addr} {o : HO} (h : H p = none) : Ev M H (upd H p o) := fun a u e _ => by rw [upd_ne (ne_of_none e h)]; exact e
theorem Ev.there (a : Ev M H H') (hm : ∀ x, M x → H' x ≠ none) {x : Addr} (h : H x ≠ none) : H' x ≠ none := by
  by_cases m : M x
  · exact hm x m
  · cases q : H x with
    | none => exact absurd q h
    | some o => rw [a x o q m]; exact fun z => nomatch z

theorem rd_ev {a : Addr} {u : HO} (e : Ev M H H') (n : ¬ M a) (h : Rd H a u) : Rd H' a u := by
  rcases h with h | ⟨o, h⟩
  · exact .inl (e a _ h n)
  · exact .inr ⟨o, e a _ h n⟩
theorem rd_there {a : Addr} {u : HO} (h : Rd H a u) : H a ≠ none := by
  rcases h with h | ⟨o, h⟩ <;> (rw [h]; exact fun z => nomatch z)

/-- S' is S but for what H did not know, and M lies in S -/
def Wid (H : Hp) (S S' : Addr → Prop) : Prop := ∀ a, S' a → S a ∨ H a = none
theorem Wid.refl : Wid H S S := fun _ h => .inl h

theorem ML.ev {a : Addr} {xs : List V} (h : ML K H S a xs) (e : Ev M H H') (hm : ∀ x, M x → S x) (w : Wid H S S') : ML K H' S' a xs := by
  obtain ⟨n, r⟩ := h
  exact ⟨fun s => (w a s).elim n (by rw [r]; exact fun z => nomatch z), e a _ r (fun m => n (hm a m))⟩
theorem MR.ev {a : Addr} {xs : List V} (h : MR K H S a xs) (e : Ev M H H') (hm : ∀ x, M x → S x) (w : Wid H S S') : MR K H' S' a xs := by
  rcases h with ⟨n, o, r⟩ | k
  · exact .inl ⟨fun s => (w a s).elim n (by rw [r]; exact fun z => nomatch z), o, e a _ r (fun m => n (hm a m))⟩
  · exact .inr k
theorem MT.ev {a : Addr} {xs : List V} (h : MT K H S a xs) (e : Ev M H H') (hm : ∀ x, M x → S x) (w : Wid H S S') : MT K H' S' a xs := by
  rcases h with ⟨n, r⟩ | k
  · exact .inl ⟨fun s => (w a s).elim n (rd_there r), rd_ev e (fun m => n (hm a m)) r⟩
  · exact .inr k

mutual
theorem Rp.ev (e : Ev M H H') (hm : ∀ x, M x → S x) (w : Wid H S S') : ∀ {v : V} {d : D}, Rp K H S v d → Rp K H' S' v d
  | _, _, .non => .non
  | _, _, .bl b => .bl b
  | _, _, .int i => .int i
  | _, _, .str x => .str x
  | _, _, .lst m r => .lst (m.ev e hm w) (RpA.ev e hm w r)
  | _, _, .tup m r => .tup (m.ev e hm w) (RpA.ev e hm w r)
  | _, _, .dk n r q => .dk (fun s => (w _ s).elim n (rd_there r)) (rd_ev e (fun m => n (hm _ m)) r) (RpA.ev e hm w q)
  | _, _, .dt n r q => .dt (fun s => (w _ s).elim n (rd_there r)) (rd_ev e (fun m => n (hm _ m)) r) (RpA.ev e hm w q)
  | _, _, .fn a => .fn a
  | _, _, .ty a => .ty a
  | _, _, .ro m r => .ro (m.ev e hm w) (RpA.ev e hm w r)
theorem RpA.ev (e : Ev M H H') (hm : ∀ x, M x → S x) (w : Wid H S S') : ∀ {vs : List V} {ds : List D}, RpA K H S vs ds → RpA K H' S' vs ds
  | _, _, .nil => .nil
  | _, _, .cons h t => .cons (Rp.ev e hm w h) (RpA.ev e hm w t)
end
theorem Rp.wid (w : Wid H S S') (h : Rp K H S v d) : Rp K H S' v d := h.ev (M := fun _ => False) Ev.refl (fun _ z => z.elim) w
theorem RpA.wid (w : Wid H S S') (h : RpA K H S vs ds) : RpA K H S' vs ds := h.ev (M := fun _ => False) Ev.refl (fun _ z => z.elim) w

theorem RpA.length : ∀ {vs : List V} {ds : List D}, RpA K H S vs ds → vs.length = ds.length
  | _, _, .nil => rfl
  | _, _, .cons _ t => by simp [RpA.length t]
theorem RpA.get : ∀ {vs : List V} {ds : List D} {i : Nat} {d : D}, RpA K H S vs ds → ds[i]? = some d → ∃ v, vs[i]? = some v ∧ Rp K H S v d
  | _, _, _, _, .nil, e => by simp at e
  | _, _, 0, _, .cons h _, e => by simp at e; subst e; exact ⟨_, rfl, h⟩
  | _, _, i + 1, _, .cons _ t, e => by
    obtain ⟨v, a, b⟩ := RpA.get (i := i) t (by simpa using e)
    exact ⟨v, by simpa using a, b⟩
theorem RpA.getV : ∀ {vs : List V} {ds : List D} {i : Nat} {v : V}, RpA K H S vs ds → vs[i]? = some v → ∃ d, ds[i]? = some d ∧ Rp K H S v d
  | _, _, _, _, .nil, e => by simp at e
  | _, _, 0, _, .cons h _, e => by simp at e; subst e; exact ⟨_, rfl, h⟩
  | _, _, i + 1, _, .cons _ t, e => by
    obtain ⟨v, a, b⟩ := RpA.getV (i := i) t (by simpa using e)
    exact ⟨v, by simpa using a, b⟩
theorem RpA.append : ∀ {vs ws : List V} {ds es : List D}, RpA K H S vs ds → RpA K H S ws es → RpA K H S (vs ++ ws) (ds ++ es)
  | _, _, _, _, .nil, q => q
  | _, _, _, _, .cons h t, q => .cons h (RpA.append t q)
theorem RpA.take : ∀ {vs : List V} {ds : List D} (n : Nat), RpA K H S vs ds → RpA K H S (vs.take n) (ds.take n)
  | _, _, 0, _ => by simp; exact .nil
  | _, _, _ + 1, .nil => .nil
  | _, _, n + 1, .cons h t => .cons h (RpA.take n t)
theorem RpA.drop : ∀ {vs : List V} {ds : List D} (n : Nat), RpA K H S vs ds → RpA K H S (vs.drop n) (ds.drop n)
  | _, _, 0, h => h
  | _, _, _ + 1, .nil => .nil
  | _, _, n + 1, .cons _ t => RpA.drop n t
theorem RpA.reverse : ∀ {vs : List V} {ds : List D}, RpA K H S vs ds → RpA K H S vs.reverse ds.reverse
  | _, _, .nil => .nil
  | _, _, .cons h t => by rw [List.reverse_cons, List.reverse_cons]; exact RpA.append (RpA.reverse t) (.cons h .nil)
theorem RpA.set : ∀ {vs : List V} {ds : List D} {v : V} {d : D} (i : Nat), Rp K H S v d → RpA K H S vs ds → RpA K H S (vs.set i v) (ds.set i d)
  | _, _, _, _, _, _, .nil => .nil
  | _, _, _, _, 0, q, .cons _ t => .cons q t
  | _, _, _, _, i + 1, q, .cons h t => .cons h (RpA.set i q t)
theorem RpA.dropLast {vs : List V} {ds : List D} (h : RpA K H S vs ds) : RpA K H S vs.dropLast ds.dropLast := by
  rw [List.dropLast_eq_take, List.dropLast_eq_take, h.length]; exact h.take _
theorem RpA.rep (n : Nat) {vs : List V} {ds : List D} (h : RpA K H S vs ds) : RpA K H S (List.replicate n vs).flatten (List.replicate n ds).flatten := by
  induction n with
  | zero => exact .nil
  | succ n ih => rw [List.replicate_succ, List.replicate_succ, List.flatten_cons, List.flatten_cons]; exact h.append ih
theorem RpA.ints : ∀ {ns : List Int} {vs : List V}, RpA K H S vs (ns.map D.int) → vs = ns.map V.int
  | [], _, .nil => rfl
  | n :: ns, _, .cons h t => by cases h; rw [List.map_cons, RpA.ints t]
theorem RpA.bls : ∀ {ns : List Bool} {vs : List V}, RpA K H S vs (ns.map D.bl) → vs = ns.map V.bl
  | [], _, .nil => rfl
  | n :: ns, _, .cons h t => by cases h; rw [List.map_cons, RpA.bls t]
theorem RpA.strs : ∀ {ns : List Str} {vs : List V}, RpA K H S vs (ns.map D.str) → vs = ns.map V.str
  | [], _, .nil => rfl
  | n :: ns, _, .cons h t => by cases h; rw [List.map_cons, RpA.strs t]
theorem RpA.ofInts : ∀ (ns : List Int), RpA K H S (ns.map V.int) (ns.map D.int)
  | [] => .nil
  | n :: ns => .cons (.int n) (RpA.ofInts ns)
theorem RpA.ofStrs : ∀ (ns : List Str), RpA K H S (ns.map V.str) (ns.map D.str)
  | [] => .nil
  | n :: ns => .cons (.str n) (RpA.ofStrs ns)

theorem ML.sq {a : Addr} {xs : List V} (h : ML K H S a xs) : SqL K H a xs := .inl (.inl h.2)
theorem MR.sq {a : Addr} {xs : List V} (h : MR K H S a xs) : SqL K H a xs := h.elim (fun z => .inl (.inr z.2)) fun z => .inr z
theorem MT.sq {a : Addr} {xs : List V} (h : MT K H S a xs) : SqT K H a xs := h.elim (fun z => .inl z.2) fun z => .inr z
end

/-! ### slots -/
inductive Ct where
  | lst (ds : List D)
  | dk (ks : List Key) (vs : List D)
  | dt (ks : List (List Key)) (vs : List D)
def Ct.d : Ct → D
  | .lst ds => .lst ds
  | .dk ks vs => .dk ks vs
  | .dt ks vs => .dt ks vs
/-- a slot: a value that is not changed any more; an object of this frame's own; an object of a caller's that is changed here -/
inductive Sl where
  | p (d : D) | o (c : Ct) | b (c : Ct)
def Sl.d : Sl → D
  | .p d => d
  | .o c => c.d
  | .b c => c.d
def Sl.own : Sl → Bool
  | .p _ => false
  | _ => true
def Sl.bor : Sl → Bool
  | .b _ => true
  | _ => false
abbrev DEnv := List (Option Sl)

inductive CRp (K : PySem.W.Frag) (H : Hp) (S : Addr → Prop) (a : Addr) : Ct → Prop
  | lst {xs : List V} {ds : List D} : H a = some (.lst xs) → RpA K H S xs ds → CRp K H S a (.lst ds)
  | dk {kvs : List (Key × V)} {ds : List D} : H a = some (.dK kvs) → RpA K H S (kvs.map (·.2)) ds → CRp K H S a (.dk (kvs.map (·.1)) ds)
  | dt {kvs : List (List Key × V)} {ds : List D} : H a = some (.dT kvs) → RpA K H S (kvs.map (·.2)) ds → CRp K H S a (.dt (kvs.map (·.1)) ds)
section
variable {K : PySem.W.Frag} {H H' : Hp} {S S' M : Addr → Prop} {a : Addr} {c : Ct}
theorem CRp.there (h : CRp K H S a c) : H a ≠ none := by
  cases h <;> (rename_i e _; rw [e]; exact fun z => nomatch z)
theorem CRp.ev (e : Ev M H H') (hm : ∀ x, M x → S x) (w : Wid H S S') (n : ¬ M a) (h : CRp K H S a c) : CRp K H' S' a c := by
  cases h with
  | lst q r => exact .lst (e a _ q n) (r.ev e hm w)
  | dk q r => exact .dk (e a _ q n) (r.ev e hm w)
  | dt q r => exact .dt (e a _ q n) (r.ev e hm w)
theorem CRp.wid (w : Wid H S S') (h : CRp K H S a c) : CRp K H S' a c := h.ev (M := fun _ => False) Ev.refl (fun _ z => z.elim) w fun z => z
/-- given away, it is a value like others -/
theorem CRp.rp (h : CRp K H S a c) (n : ¬ S a) : Rp K H S (.ref a) c.d := by
  cases h with
  | lst q r => exact .lst ⟨n, q⟩ r
  | dk q r => exact .dk n (.inl q) r
  | dt q r => exact .dt n (.inl q) r
end

def isOwn (δ : DEnv) (i : Nat) : Prop := ∃ s, δ[i]? = some (some s) ∧ s.own = true
def OwnAt (δ : DEnv) (σ : L2.St) (a : Addr) : Prop := ∃ i, isOwn δ i ∧ σ[i]? = some (some (.ref a))
def Sx (S : Addr → Prop) (δ : DEnv) (σ : L2.St) (a : Addr) : Prop := S a ∨ OwnAt δ σ a

/-- what the slots bear -/
structure Sat (K : PySem.W.Frag) (S : Addr → Prop) (δ : DEnv) (σ : L2.St) (H : Hp) : Prop where
  len : δ.length = σ.length
  alloc : ∀ a, S a → H a ≠ none
  pure : ∀ (i : Nat) (d : D), δ[i]? = some (some (.p d)) → ∃ v, σ[i]? = some (some v) ∧ Rp K H (Sx S δ σ) v d
  own : ∀ (i : Nat) (c : Ct), δ[i]? = some (some (.o c)) ∨ δ[i]? = some (some (.b c)) → ∃ a, σ[i]? = some (some (.ref a)) ∧ CRp K H (Sx S δ σ) a c
  off : ∀ (i : Nat) (c : Ct) (a : Addr), δ[i]? = some (some (.o c)) → σ[i]? = some (some (.ref a)) → ¬ S a
  sep : ∀ (i j : Nat) (a : Addr), isOwn δ i → isOwn δ j → σ[i]? = some (some (.ref a)) → σ[j]? = some (some (.ref a)) → i = j
section
variable {K : PySem.W.Frag} {H H' H1 : Hp} {S S' : Addr → Prop} {δ δ' δ1 : DEnv} {σ σ' : L2.St}
theorem Sat.ownThere (s : Sat K S δ σ H) {a : Addr} (h : OwnAt δ σ a) : H a ≠ none := by
  obtain ⟨i, ⟨sl, e, o⟩, q⟩ := h
  cases sl with
  | p d => cases o
  | o c =>
    obtain ⟨b, e1, r⟩ := s.own i c (.inl e)
    rw [q] at e1; cases e1; exact r.there
  | b c =>
    obtain ⟨b, e1, r⟩ := s.own i c (.inr e)
    rw [q] at e1; cases e1; exact r.there
theorem Sat.there (s : Sat K S δ σ H) {a : Addr} (h : Sx S δ σ a) : H a ≠ none := h.elim (s.alloc a) s.ownThere
/-- all stays but objects that no slot bears -/
theorem Sat.step {M : Addr → Prop} (s : Sat K S δ σ H) (e : Ev M H H') (hm : ∀ x, M x → Sx S δ σ x) (no : ∀ x, M x → ¬ OwnAt δ σ x) (al : ∀ a, S a → H' a ≠ none) : Sat K S δ σ H' where
  len := s.len
  alloc := al
  pure := fun i d h => let ⟨v, q, r⟩ := s.pure i d h; ⟨v, q, r.ev e hm Wid.refl⟩
  own := fun i c h => let ⟨a, q, r⟩ := s.own i c h; ⟨a, q, r.ev e hm Wid.refl fun m => no a m ⟨i, by
    rcases h with h | h
    · exact ⟨_, h, rfl⟩
    · exact ⟨_, h, rfl⟩, q⟩⟩
  off := s.off
  sep := s.sep
/-- nothing that is known changes -/
theorem Sat.grow (s : Sat K S δ σ H) (e : Ev (fun _ => False) H H') : Sat K S δ σ H' :=
  s.step e (fun _ z => z.elim) (fun _ z => z.elim) fun a h z => by
    have q := s.alloc a h
    cases w : H a with
    | none => exact q w
    | some o => rw [e a o w (fun z => z)] at z; cases z
/-- fewer addresses to be kept off -/
theorem Sat.less (s : Sat K S δ σ H) (h : ∀ a, S' a → S a) : Sat K S' δ σ H where
  len := s.len
  alloc := fun a q => s.alloc a (h a q)
  pure := fun i d q => let ⟨v, a, r⟩ := s.pure i d q; ⟨v, a, r.wid fun x z => .inl (z.elim (fun z => .inl (h x z)) .inr)⟩
  own := fun i c q => let ⟨v, a, r⟩ := s.own i c q; ⟨v, a, r.wid fun x z => .inl (z.elim (fun z => .inl (h x z)) .inr)⟩
  off := fun i c a q r z => s.off i c a q r (h a z)
  sep := s.sep
/-- a new object beside all -/
theorem Sat.more (s : Sat K S δ σ H) {p : Addr} {u : HO} (n : H p = none) : Sat K (fun a => S a ∨ a = p) δ σ (upd H p u) := by
  have e : Ev (fun _ => False) H (upd H p u) := Ev.new n
  have w : Wid H (Sx S δ σ) (Sx (fun a => S a ∨ a = p) δ σ) := fun x z => by
    rcases z with (z | z) | z
    · exact .inl (.inl z)
    · exact .inr (by rw [z]; exact n)
    · exact .inl (.inr z)
  refine ⟨s.len, fun a h => ?_, fun i d q => ?_, fun i c q => ?_, fun i c a q r z => ?_, s.sep⟩
  · rcases h with h | h
    · rw [upd_ne (fun z : a = p => s.alloc a h (by rw [z]; exact n))]; exact s.alloc a h
    · rw [h, upd_same]; exact fun z => nomatch z
  · obtain ⟨v, a, r⟩ := s.pure i d q
    exact ⟨v, a, r.ev e (fun _ z => z.elim) w⟩
  · obtain ⟨v, a, r⟩ := s.own i c q
    exact ⟨v, a, r.ev e (fun _ z => z.elim) w fun z => z⟩
  · rcases z with z | z
    · exact s.off i c a q r z
    · obtain ⟨b, q2, r2⟩ := s.own i c (.inl q)
      rw [r] at q2; cases q2
      exact r2.there (by rw [z]; exact n)
theorem ownAt_of_o (s : Sat K S δ σ H) {i : Nat} {c : Ct} (h : δ[i]? = some (some (.o c)) ∨ δ[i]? = some (some (.b c))) : ∃ a, σ[i]? = some (some (.ref a)) ∧ OwnAt δ σ a ∧ CRp K H (Sx S δ σ) a c := by
  obtain ⟨a, q, r⟩ := s.own i c h
  exact ⟨a, q, ⟨i, by rcases h with h | h <;> exact ⟨_, h, rfl⟩, q⟩, r⟩

/-- an own object is given away: from here on a value like others -/
theorem Sat.give (s : Sat K S δ σ H) {i : Nat} {c : Ct} (h : δ[i]? = some (some (.o c))) : Sat K S (δ.set i (some (.p c.d))) σ H ∧ ∃ a, σ[i]? = some (some (.ref a)) ∧ Rp K H (Sx S (δ.set i (some (.p c.d))) σ) (.ref a) c.d := by
  obtain ⟨a, q, r⟩ := s.own i c (.inl h)
  have hi : i < δ.length := (List.getElem?_eq_some_iff.mp h).1
  have own' : ∀ j, isOwn (δ.set i (some (.p c.d))) j → isOwn δ j ∧ j ≠ i := fun j ⟨sl, e, o⟩ => by
    by_cases z : i = j
    · subst z
      rw [List.getElem?_set_self hi] at e
      cases e; cases o
    · rw [List.getElem?_set_ne z] at e
      exact ⟨⟨sl, e, o⟩, fun e => z e.symm⟩
  have w : Wid H (Sx S δ σ) (Sx S (δ.set i (some (.p c.d))) σ) := fun x z => .inl (z.elim .inl fun ⟨j, o, e⟩ => .inr ⟨j, (own' j o).1, e⟩)
  have na : ¬ Sx S (δ.set i (some (.p c.d))) σ a := fun z => by
    rcases z with z | ⟨j, o, e⟩
    · exact s.off i c a h q z
    · exact (own' j o).2 (s.sep j i a (own' j o).1 ⟨_, h, rfl⟩ e q)
  have ra : Rp K H (Sx S (δ.set i (some (.p c.d))) σ) (.ref a) c.d := (r.wid w).rp na
  refine ⟨⟨by rw [List.length_set]; exact s.len, s.alloc, fun j d e => ?_, fun j d e => ?_, fun j c' b e e2 => ?_, fun j l b o o' e e' => s.sep j l b (own' j o).1 (own' l o').1 e e'⟩, a, q, ra⟩
  · by_cases z : i = j
    · subst z
      rw [List.getElem?_set_self hi] at e
      cases e
      exact ⟨_, q, ra⟩
    · rw [List.getElem?_set_ne z] at e
      obtain ⟨v, a1, r1⟩ := s.pure j d e
      exact ⟨v, a1, r1.wid w⟩
  · by_cases z : i = j
    · subst z
      rw [List.getElem?_set_self hi] at e
      rcases e with e | e <;> cases e
    · rw [List.getElem?_set_ne z] at e
      obtain ⟨v, a1, r1⟩ := s.own j d e
      exact ⟨v, a1, r1.wid w⟩
  · by_cases z : i = j
    · subst z
      rw [List.getElem?_set_self hi] at e
      cases e
    · rw [List.getElem?_set_ne z] at e
      exact s.off j c' b e e2
end
end DL

/-! DLb: what expressions give over environments of data; the rules of the hand layer told by it. -/
namespace DL
open PySem PySem.Spec PyProof.Rows L2

abbrev EX := DEnv → Option (D × DEnv)
abbrev BX := DEnv → Option (Bool × DEnv)
abbrev OX := DEnv → Option (Ct × DEnv)

/-- a value on its way: a slot's (looked up when it is needed), or data -/
inductive Hd where
  | nm (i : Nat) | val (d : D)
def slotD (δ : DEnv) (i : Nat) : Option D := match δ[i]? with
  | some (some s) => some s.d
  | _ => none
def Hd.d (δ : DEnv) : Hd → Option D
  | .nm i => slotD δ i
  | .val d => some d
abbrev HX := DEnv → Option (Hd × DEnv)
abbrev AX := DEnv → Option (List Hd × DEnv)

section
variable {K : PySem.W.Frag} {S : Addr → Prop} {δ δ1 δ2 δ' : DEnv} {σ : L2.St} {H H1 H2 H' : Hp} {v w : V} {d : D}

theorem peI {X : Cx} {e : Expr} {t t' : TE} (h : PE X e t) (i : ∀ σ H Q, t' σ H Q → t σ H Q) : PE X e t' := ⟨fun pins s σ H Q I q => h.run pins s σ H Q I (i σ H Q q)⟩
theorem ptI {X : Cx} {e : Expr} {t t' : TT} (h : PT X e t) (i : ∀ σ H Q, t' σ H Q → t σ H Q) : PT X e t' := ⟨fun pins s σ H Q I q => h.run pins s σ H Q I (i σ H Q q)⟩
theorem pwI {X : Cx} {e : Expr} {t t' : TT} (h : PW X e t) (i : ∀ σ H Q, t' σ H Q → t σ H Q) : PW X e t' := ⟨fun wh pins s σ H Q I q => h.run wh pins s σ H Q I (i σ H Q q)⟩
theorem paI {X : Cx} {e : List Expr} {t t' : TA} (h : PA X e t) (i : ∀ σ H Q, t' σ H Q → t σ H Q) : PA X e t' := ⟨fun p pins s σ H Q I q => h.run p pins s σ H Q I (i σ H Q q)⟩
theorem psI {X : Cx} {e : Stmt} {t t' : TS} (h : PS X e t) (i : ∀ D σ H, t' D σ H → t D σ H) : PS X e t' := ⟨fun pins s σ H D I q => h.run pins s σ H D I (i D σ H q)⟩
theorem pssI {X : Cx} {e : List Stmt} {t t' : TS} (h : PSs X e t) (i : ∀ D σ H, t' D σ H → t D σ H) : PSs X e t' := ⟨fun pins s σ H D I q => h.run pins s σ H D I (i D σ H q)⟩

/-! ### behind an expression -/
structure PostE (K : PySem.W.Frag) (S : Addr → Prop) (δ : DEnv) (σ : L2.St) (H : Hp) (δ' : DEnv) (H' : Hp) : Prop where
  sat : Sat K S δ' σ H'
  ev : Ev (OwnAt δ σ) H H'
  sub : ∀ i, isOwn δ' i → isOwn δ i
  dom : ∀ (i : Nat), (∃ s : Sl, δ[i]? = some (some s)) → ∃ s : Sl, δ'[i]? = some (some s)
  bor : ∀ (i : Nat) (c : Ct), δ[i]? = some (some (.b c)) → ∃ c', δ'[i]? = some (some (.b c'))
  al : ∀ a, H a ≠ none → H' a ≠ none
theorem ev_al {H H' : Hp} (e : Ev (fun _ => False) H H') : ∀ a, H a ≠ none → H' a ≠ none := fun a h => e.there (fun _ z => z.elim) h
theorem own_sub {δ δ' : DEnv} {σ : L2.St} (h : ∀ i, isOwn δ' i → isOwn δ i) {a : Addr} (q : OwnAt δ' σ a) : OwnAt δ σ a := let ⟨i, o, e⟩ := q; ⟨i, h i o, e⟩
theorem PostE.refl (s : Sat K S δ σ H) : PostE K S δ σ H δ H := ⟨s, Ev.refl, fun _ h => h, fun _ h => h, fun _ c h => ⟨c, h⟩, fun _ h => h⟩
theorem PostE.trans (a : PostE K S δ σ H δ1 H1) (b : PostE K S δ1 σ H1 δ2 H2) : PostE K S δ σ H δ2 H2 :=
  ⟨b.sat, a.ev.trans b.ev fun _ h => .inl (own_sub a.sub h), fun i h => a.sub i (b.sub i h), fun i h => b.dom i (a.dom i h), fun i c h => let ⟨c', e⟩ := a.bor i c h; b.bor i c' e, fun x h => b.al x (a.al x h)⟩
theorem PostE.grow (a : PostE K S δ σ H δ1 H1) (e : Ev (fun _ => False) H1 H2) : PostE K S δ σ H δ1 H2 :=
  ⟨a.sat.grow e, a.ev.trans e fun _ z => z.elim, a.sub, a.dom, a.bor, fun x h => ev_al e x (a.al x h)⟩
/-- what was read stays -/
theorem PostE.rp (b : PostE K S δ σ H δ1 H1) (r : Rp K H (Sx S δ σ) v d) : Rp K H1 (Sx S δ1 σ) v d :=
  r.ev b.ev (fun _ h => .inr h) fun _ h => h.elim (fun z => .inl (.inl z)) fun z => .inl (.inr (own_sub b.sub z))
theorem PostE.rpA {vs : List V} {ds : List D} (b : PostE K S δ σ H δ1 H1) (r : RpA K H (Sx S δ σ) vs ds) : RpA K H1 (Sx S δ1 σ) vs ds :=
  r.ev b.ev (fun _ h => .inr h) fun _ h => h.elim (fun z => .inl (.inl z)) fun z => .inl (.inr (own_sub b.sub z))

/-- a handle's value -/
def HdOk (K : PySem.W.Frag) (S : Addr → Prop) (δ : DEnv) (σ : L2.St) (H : Hp) (v : V) : Hd → Prop
  | .nm i => σ[i]? = some (some v) ∧ ∃ s : Sl, δ[i]? = some (some s)
  | .val d => Rp K H (Sx S δ σ) v d
theorem HdOk.on {x : Hd} (b : PostE K S δ σ H δ1 H1) (h : HdOk K S δ σ H v x) : HdOk K S δ1 σ H1 v x := by
  cases x with
  | nm i => exact ⟨h.1, b.dom i h.2⟩
  | val d => exact b.rp h
/-- a value as it is looked at: of others, or this frame's own -/
def Vw (K : PySem.W.Frag) (H : Hp) (S : Addr → Prop) (v : V) (d : D) : Prop := Rp K H S v d ∨ ∃ a c, v = .ref a ∧ CRp K H S a c ∧ d = c.d
theorem HdOk.vw {x : Hd} (s : Sat K S δ σ H) (h : HdOk K S δ σ H v x) (e : x.d δ = some d) : Vw K H (Sx S δ σ) v d := by
  cases x with
  | val z => cases e; exact .inl h
  | nm i =>
    obtain ⟨hv, sl, hs⟩ := h
    have e' : some sl.d = some d := by
      have : slotD δ i = some sl.d := by unfold slotD; rw [hs]
      rw [← this]; exact e
    cases sl with
    | p z =>
      cases e'
      obtain ⟨u, hu, r⟩ := s.pure i _ hs
      rw [hv] at hu; cases hu; exact .inl r
    | o c =>
      cases e'
      obtain ⟨a, hu, r⟩ := s.own i _ (.inl hs)
      rw [hv] at hu; cases hu; exact .inr ⟨a, c, rfl, r, rfl⟩
    | b c =>
      cases e'
      obtain ⟨a, hu, r⟩ := s.own i _ (.inr hs)
      rw [hv] at hu; cases hu; exact .inr ⟨a, c, rfl, r, rfl⟩
theorem Vw.lst {T : Addr → Prop} {ds : List D} (h : Vw K H T v (.lst ds)) : ∃ a xs, v = .ref a ∧ H a = some (.lst xs) ∧ RpA K H T xs ds := by
  rcases h with h | ⟨a, c, rfl, r, e⟩
  · cases h with
    | lst m q => exact ⟨_, _, rfl, m.2, q⟩
  · cases r <;> cases e
    rename_i q r
    exact ⟨a, _, rfl, q, r⟩
end

section
variable {K : PySem.W.Frag} {S T : Addr → Prop} {δ δ1 δ2 δ' : DEnv} {σ : L2.St} {H H1 H2 H' : Hp} {v w : V} {d : D} {ds : List D}
theorem Vw.int {i : Int} (h : Vw K H T v (.int i)) : v = .int i := by
  rcases h with h | ⟨a, c, rfl, r, e⟩
  · cases h; rfl
  · cases r <;> cases e
theorem Vw.bl {b : Bool} (h : Vw K H T v (.bl b)) : v = .bl b := by
  rcases h with h | ⟨a, c, rfl, r, e⟩
  · cases h; rfl
  · cases r <;> cases e
theorem Vw.str {b : Str} (h : Vw K H T v (.str b)) : v = .str b := by
  rcases h with h | ⟨a, c, rfl, r, e⟩
  · cases h; rfl
  · cases r <;> cases e
theorem Vw.non (h : Vw K H T v .non) : v = .non := by
  rcases h with h | ⟨a, c, rfl, r, e⟩
  · cases h; rfl
  · cases r <;> cases e
theorem Vw.tup (h : Vw K H T v (.tup ds)) : ∃ a xs, v = .ref a ∧ MT K H T a xs ∧ RpA K H T xs ds := by
  rcases h with h | ⟨a, c, rfl, r, e⟩
  · cases h with
    | tup m q => exact ⟨_, _, rfl, m, q⟩
  · cases r <;> cases e
theorem Vw.ro (h : Vw K H T v (.ro ds)) : ∃ a xs, v = .ref a ∧ MR K H T a xs ∧ RpA K H T xs ds := by
  rcases h with h | ⟨a, c, rfl, r, e⟩
  · cases h with
    | ro m q => exact ⟨_, _, rfl, m, q⟩
  · cases r <;> cases e
theorem Vw.dk {ks : List Key} (h : Vw K H T v (.dk ks ds)) : ∃ a kvs, v = .ref a ∧ Rd H a (.dK kvs) ∧ kvs.map (·.1) = ks ∧ RpA K H T (kvs.map (·.2)) ds := by
  rcases h with h | ⟨a, c, rfl, r, e⟩
  · cases h with
    | dk n m q => exact ⟨_, _, rfl, m, rfl, q⟩
  · cases r <;> cases e
    rename_i q r
    exact ⟨a, _, rfl, .inl q, rfl, r⟩
theorem Vw.dt {ks : List (List Key)} (h : Vw K H T v (.dt ks ds)) : ∃ a kvs, v = .ref a ∧ Rd H a (.dT kvs) ∧ kvs.map (·.1) = ks ∧ RpA K H T (kvs.map (·.2)) ds := by
  rcases h with h | ⟨a, c, rfl, r, e⟩
  · cases h with
    | dt n m q => exact ⟨_, _, rfl, m, rfl, q⟩
  · cases r <;> cases e
    rename_i q r
    exact ⟨a, _, rfl, .inl q, rfl, r⟩

/-! ### readings -/
def rd (K : PySem.W.Frag) (S : Addr → Prop) (ev : EX) : TE := fun σ H Q => ∃ δ d δ', Sat K S δ σ H ∧ ev δ = some (d, δ') ∧ ∀ v H', PostE K S δ σ H δ' H' → Rp K H' (Sx S δ' σ) v d → Q v H'
def rdh (K : PySem.W.Frag) (S : Addr → Prop) (ev : HX) : TE := fun σ H Q => ∃ δ x δ', Sat K S δ σ H ∧ ev δ = some (x, δ') ∧ ∀ v H', PostE K S δ σ H δ' H' → HdOk K S δ' σ H' v x → Q v H'
def rdT (K : PySem.W.Frag) (S : Addr → Prop) (ev : BX) : TT := fun σ H Q => ∃ δ d δ', Sat K S δ σ H ∧ ev δ = some (d, δ') ∧ ∀ H', PostE K S δ σ H δ' H' → Q d H'
inductive HdsOk (K : PySem.W.Frag) (S : Addr → Prop) (δ : DEnv) (σ : L2.St) (H : Hp) : List V → List Hd → Prop
  | nil : HdsOk K S δ σ H [] []
  | cons {v : V} {x : Hd} {vs : List V} {xs : List Hd} : HdOk K S δ σ H v x → HdsOk K S δ σ H vs xs → HdsOk K S δ σ H (v :: vs) (x :: xs)
def rdA (K : PySem.W.Frag) (S : Addr → Prop) (ev : AX) : TA := fun σ H Q => ∃ δ x δ', Sat K S δ σ H ∧ ev δ = some (x, δ') ∧ ∀ vs H', PostE K S δ σ H δ' H' → HdsOk K S δ' σ H' vs x → Q vs H'
/-- a new object of this frame's own -/
def rdO (K : PySem.W.Frag) (S : Addr → Prop) (ev : OX) : TE := fun σ H Q => ∃ δ c δ', Sat K S δ σ H ∧ ev δ = some (c, δ') ∧
  ∀ a H', H a = none → PostE K S δ σ H δ' H' → Sat K (fun b => S b ∨ b = a) δ' σ H' → CRp K H' (Sx (fun b => S b ∨ b = a) δ' σ) a c → Q (.ref a) H'

variable {X : Cx} {e : Expr}
/-- an own new object, given as a value -/
def eOwn (o : OX) : EX := fun δ => (o δ).bind fun p => some (p.1.d, p.2)
theorem pd_own {o : OX} (h : PE X e (rdO X.K S o)) : PE X e (rd X.K S (eOwn o)) := peI h fun σ H Q ⟨δ, d, δ', s, q, k⟩ => by
  obtain ⟨⟨c, δ1⟩, q1, q2⟩ := Option.bind_eq_some_iff.mp q
  cases q2
  refine ⟨δ, c, δ1, s, q1, fun a H' hn p s2 r => k _ _ p ?_⟩
  refine CRp.rp (r.wid fun x z => .inl (z.elim (fun z => .inl (.inl z)) .inr)) fun z => ?_
  rcases z with z | z
  · exact s.alloc a z hn
  · exact s.ownThere (own_sub p.sub z) hn
/-- a value, as a handle -/
def hVal (ev : EX) : HX := fun δ => (ev δ).bind fun p => some (.val p.1, p.2)
theorem ph_val {ev : EX} (h : PE X e (rd X.K S ev)) : PE X e (rdh X.K S (hVal ev)) := peI h fun σ H Q ⟨δ, x, δ', s, q, k⟩ => by
  obtain ⟨⟨d, δ1⟩, q1, q2⟩ := Option.bind_eq_some_iff.mp q
  cases q2
  exact ⟨δ, d, δ1, s, q1, fun v H' p r => k v H' p r⟩
end
end DL

/-! DLc: the rules for expressions. -/
namespace DL
open PySem PySem.Spec PyProof.Rows L2

def lim : Nat := 4000000
theorem lim_line {n : Nat} (h : n ≤ lim) : n ≤ sizeLine := by rw [sizeLine_eq]; exact Nat.le_trans h (by decide)
theorem lim_lt {n : Nat} (h : n < lim) : n < sizeLine := by rw [sizeLine_eq]; exact Nat.lt_of_lt_of_le h (by decide)

section
variable {K : PySem.W.Frag} {S T : Addr → Prop} {δ δ1 δ2 δ' : DEnv} {σ : L2.St} {H H1 H2 H' : Hp} {v w : V} {d : D} {ds : List D}
variable {X : Cx} {e a b c : Expr} {pos : Pos}

/-! ### names and constants -/
def eVar (i : Nat) : EX := fun δ => match δ[i]? with
  | some (some (.p d)) => some (d, δ)
  | some (some (.o c)) => some (c.d, δ.set i (some (.p c.d)))
  | _ => none
theorem post_give (s : Sat K S δ σ H) {i : Nat} {c : Ct} (h : δ[i]? = some (some (.o c))) : PostE K S δ σ H (δ.set i (some (.p c.d))) H := by
  have hi : i < δ.length := (List.getElem?_eq_some_iff.mp h).1
  refine ⟨(s.give h).1, Ev.refl, fun j ⟨sl, e, o⟩ => ?_, fun j ⟨sl, e⟩ => ?_, fun j c' e => ?_, fun _ z => z⟩
  · by_cases z : i = j
    · subst z; exact ⟨_, h, rfl⟩
    · rw [List.getElem?_set_ne z] at e; exact ⟨sl, e, o⟩
  · by_cases z : i = j
    · subst z; exact ⟨_, List.getElem?_set_self hi⟩
    · exact ⟨sl, by rw [List.getElem?_set_ne z]; exact e⟩
  · by_cases z : i = j
    · subst z; rw [h] at e; cases e
    · exact ⟨c', by rw [List.getElem?_set_ne z]; exact e⟩
theorem pd_var {i : Nat} (h : PE X e (tVar i)) : PE X e (rd X.K S (eVar i)) := peI h fun σ H Q ⟨δ, d, δ', s, q, k⟩ => by
  unfold eVar at q
  split at q
  · rename_i z e1
    cases q
    obtain ⟨v, hv, r⟩ := s.pure i _ e1
    exact ⟨v, hv, k v H (PostE.refl s) r⟩
  · rename_i c e1
    cases q
    obtain ⟨s', v, hv, r⟩ := s.give e1
    exact ⟨_, hv, k _ H (post_give s e1) r⟩
  · cases q
def hName (i : Nat) : HX := fun δ => match δ[i]? with
  | some (some _) => some (.nm i, δ)
  | _ => none
theorem ph_name {i : Nat} (h : PE X e (tVar i)) : PE X e (rdh X.K S (hName i)) := peI h fun σ H Q ⟨δ, d, δ', s, q, k⟩ => by
  unfold hName at q
  split at q
  · rename_i sl e1
    cases q
    cases sl with
    | p z =>
      obtain ⟨v, hv, r⟩ := s.pure i _ e1
      exact ⟨v, hv, k v H (PostE.refl s) ⟨hv, _, e1⟩⟩
    | o z =>
      obtain ⟨v, hv, r⟩ := s.own i _ (.inl e1)
      exact ⟨_, hv, k _ H (PostE.refl s) ⟨hv, _, e1⟩⟩
    | b z =>
      obtain ⟨v, hv, r⟩ := s.own i _ (.inr e1)
      exact ⟨_, hv, k _ H (PostE.refl s) ⟨hv, _, e1⟩⟩
  · cases q
def eC (d : D) : EX := fun δ => some (d, δ)
theorem pd_c {x : V} (h : PE X e (tC x)) (r : ∀ (K : PySem.W.Frag) (H : Hp) (T : Addr → Prop), Rp K H T x d) : PE X e (rd X.K S (eC d)) := peI h fun σ H Q ⟨δ, z, δ', s, q, k⟩ => by
  cases q
  exact k x H (PostE.refl s) (r _ _ _)
theorem pd_int {i : Int} (h : PE X e (tC (.int i))) : PE X e (rd X.K S (eC (.int i))) := pd_c h fun _ _ _ => .int i
theorem pd_bl {i : Bool} (h : PE X e (tC (.bl i))) : PE X e (rd X.K S (eC (.bl i))) := pd_c h fun _ _ _ => .bl i
theorem pd_str {i : Str} (h : PE X e (tC (.str i))) : PE X e (rd X.K S (eC (.str i))) := pd_c h fun _ _ _ => .str i
theorem pd_non (h : PE X e (tC .non)) : PE X e (rd X.K S (eC .non)) := pd_c h fun _ _ _ => .non
theorem pd_fn {f : Addr} (h : PE X e (tC (.ref f))) : PE X e (rd X.K S (eC (.fn f))) := pd_c h fun _ _ _ => .fn f
theorem pd_ty {n : String} (h : PE X e (tC (.ty n))) : PE X e (rd X.K S (eC (.ty n))) := pd_c h fun _ _ _ => .ty n

/-! ### rows of operands -/
def aNil : AX := fun δ => some ([], δ)
def aCons (h : HX) (t : AX) : AX := fun δ => (h δ).bind fun p => (t p.2).bind fun q => some (p.1 :: q.1, q.2)
theorem HdsOk.on {vs : List V} {xs : List Hd} (b : PostE K S δ σ H δ1 H1) (h : HdsOk K S δ σ H vs xs) : HdsOk K S δ1 σ H1 vs xs := by
  induction h with
  | nil => exact .nil
  | cons h _ ih => exact .cons (h.on b) ih
theorem pda_nil : PA X [] (rdA X.K S aNil) := paI pa_nil fun σ H Q ⟨δ, z, δ', s, q, k⟩ => by
  cases q
  exact k [] H (PostE.refl s) .nil
theorem pda_cons {es : List Expr} {h : HX} {t : AX} (he : PE X e (rdh X.K S h)) (ht : PA X es (rdA X.K S t)) (hs : starEach (e :: es) X.env = (false, eval e X.env) :: starEach es X.env := by rfl) :
    PA X (e :: es) (rdA X.K S (aCons h t)) := paI (pa_cons he ht hs) fun σ H Q ⟨δ, z, δ', s, q, k⟩ => by
  obtain ⟨⟨x, δ1⟩, q1, q2⟩ := Option.bind_eq_some_iff.mp q
  obtain ⟨⟨y, δ2⟩, q3, q4⟩ := Option.bind_eq_some_iff.mp q2
  cases q4
  exact ⟨δ, x, δ1, s, q1, fun v H1 p1 r1 => ⟨δ1, y, δ2, p1.sat, q3, fun vs H2 p2 r2 => k _ H2 (p1.trans p2) (.cons (r1.on p2) r2)⟩⟩
def hds (δ : DEnv) : List Hd → Option (List D)
  | [] => some []
  | x :: xs => (x.d δ).bind fun d => (hds δ xs).bind fun ds => some (d :: ds)
inductive VwA (K : PySem.W.Frag) (H : Hp) (T : Addr → Prop) : List V → List D → Prop
  | nil : VwA K H T [] []
  | cons {v : V} {d : D} {vs : List V} {ds : List D} : Vw K H T v d → VwA K H T vs ds → VwA K H T (v :: vs) (d :: ds)
theorem HdsOk.vw {vs : List V} {xs : List Hd} (s : Sat K S δ σ H) (h : HdsOk K S δ σ H vs xs) : ∀ {ds : List D}, hds δ xs = some ds → VwA K H (Sx S δ σ) vs ds := by
  induction h with
  | nil => intro ds e; cases e; exact .nil
  | cons h _ ih =>
    intro ds e
    obtain ⟨d, e1, e2⟩ := Option.bind_eq_some_iff.mp e
    obtain ⟨ds', e3, e4⟩ := Option.bind_eq_some_iff.mp e2
    cases e4
    exact .cons (h.vw s e1) (ih e3)

/-! ### handles taken as values: what is this frame's own is given away -/
def giveOne (δ : DEnv) : Hd → Option (D × DEnv)
  | .nm i => eVar i δ
  | .val d => some (d, δ)

/-! ### operations by data -/
def OpD (K : PySem.W.Frag) (r : R2) (g : D → D → Option D) : Prop := ∀ (T : Addr → Prop) (H : Hp) (x y : V) (dx dy dz : D) (Q : VK), (∀ a, T a → H a ≠ none) → Vw K H T x dx → Vw K H T y dy → g dx dy = some dz →
  (∀ z H', Ev (fun _ => False) H H' → Rp K H' T z dz → Q z H') → r x y H Q
def OpO (K : PySem.W.Frag) (r : R2) (g : D → D → Option Ct) : Prop := ∀ (T : Addr → Prop) (H : Hp) (x y : V) (dx dy : D) (dz : Ct) (Q : VK), (∀ a, T a → H a ≠ none) → Vw K H T x dx → Vw K H T y dy → g dx dy = some dz →
  (∀ a u, H a = none → CRp K (upd H a u) (fun b => T b ∨ b = a) a dz → Q (.ref a) (upd H a u)) → r x y H Q
def CallD (K : PySem.W.Frag) (r : List V → Hp → VK → Prop) (g : List D → Option D) : Prop := ∀ (T : Addr → Prop) (H : Hp) (xs : List V) (ds : List D) (dz : D) (Q : VK), (∀ a, T a → H a ≠ none) → VwA K H T xs ds → g ds = some dz →
  (∀ z H', Ev (fun _ => False) H H' → Rp K H' T z dz → Q z H') → r xs H Q
def CallO (K : PySem.W.Frag) (r : List V → Hp → VK → Prop) (g : List D → Option Ct) : Prop := ∀ (T : Addr → Prop) (H : Hp) (xs : List V) (ds : List D) (dz : Ct) (Q : VK), (∀ a, T a → H a ≠ none) → VwA K H T xs ds → g ds = some dz →
  (∀ a u, H a = none → CRp K (upd H a u) (fun b => T b ∨ b = a) a dz → Q (.ref a) (upd H a u)) → r xs H Q
def eOp (g : D → D → Option D) (a b : HX) : EX := fun δ => (a δ).bind fun p => (b p.2).bind fun q => (p.1.d q.2).bind fun x => (q.1.d q.2).bind fun y => (g x y).bind fun z => some (z, q.2)
def oOp (g : D → D → Option Ct) (a b : HX) : OX := fun δ => (a δ).bind fun p => (b p.2).bind fun q => (p.1.d q.2).bind fun x => (q.1.d q.2).bind fun y => (g x y).bind fun z => some (z, q.2)
theorem eOp_inv {g : D → D → Option D} {a b : HX} (h : eOp g a b δ = some (d, δ')) : ∃ x δ1 y dx dy, a δ = some (x, δ1) ∧ b δ1 = some (y, δ') ∧ x.d δ' = some dx ∧ y.d δ' = some dy ∧ g dx dy = some d := by
  obtain ⟨⟨x, δ1⟩, q1, q2⟩ := Option.bind_eq_some_iff.mp h
  obtain ⟨⟨y, δ2⟩, q3, q4⟩ := Option.bind_eq_some_iff.mp q2
  obtain ⟨dx, q5, q6⟩ := Option.bind_eq_some_iff.mp q4
  obtain ⟨dy, q7, q8⟩ := Option.bind_eq_some_iff.mp q6
  obtain ⟨dz, q9, q10⟩ := Option.bind_eq_some_iff.mp q8
  cases q10
  exact ⟨x, δ1, y, dx, dy, q1, q3, q5, q7, q9⟩
theorem rd_op {r : R2} {g : D → D → Option D} {ha hb : HX} {Q : VK} (hd : OpD K r g) (h : rd K S (eOp g ha hb) σ H Q) : tOp r (rdh K S ha) (rdh K S hb) σ H Q := by
  obtain ⟨δ, d, δe, s, q, k⟩ := h
  obtain ⟨x, δ1, y, dx, dy, q1, q2, e1, e2, e3⟩ := eOp_inv q
  exact ⟨δ, x, δ1, s, q1, fun v H1 p1 r1 => ⟨δ1, y, δe, p1.sat, q2, fun u H2 p2 r2 =>
    hd _ H2 v u dx dy d Q (fun a z => p2.sat.there z) ((r1.on p2).vw p2.sat e1) (r2.vw p2.sat e2) e3 fun z H3 e rz => k z H3 ((p1.trans p2).grow e) rz⟩⟩
theorem rdO_op {r : R2} {g : D → D → Option Ct} {ha hb : HX} {Q : VK} (hd : OpO K r g) (h : rdO K S (oOp g ha hb) σ H Q) : tOp r (rdh K S ha) (rdh K S hb) σ H Q := by
  obtain ⟨δ, d, δe, s, q, k⟩ := h
  obtain ⟨⟨x, δ1⟩, q1, q2⟩ := Option.bind_eq_some_iff.mp q
  obtain ⟨⟨y, δ2⟩, q3, q4⟩ := Option.bind_eq_some_iff.mp q2
  obtain ⟨dx, q5, q6⟩ := Option.bind_eq_some_iff.mp q4
  obtain ⟨dy, q7, q8⟩ := Option.bind_eq_some_iff.mp q6
  obtain ⟨dz, q9, q10⟩ := Option.bind_eq_some_iff.mp q8
  cases q10
  refine ⟨δ, x, δ1, s, q1, fun v H1 p1 r1 => ⟨δ1, y, δ2, p1.sat, q3, fun u H2 p2 r2 =>
    hd _ H2 v u dx dy d Q (fun a z => p2.sat.there z) ((r1.on p2).vw p2.sat q5) (r2.vw p2.sat q7) q9 fun z o hn rz => ?_⟩⟩
  have p3 : PostE K S δ σ H δ2 (upd H2 z o) := (p1.trans p2).grow (Ev.new hn)
  refine k z _ ?_ p3 (p2.sat.more hn) (rz.wid fun x zz => .inl ?_)
  · cases q0 : H z with
    | none => rfl
    | some o0 => exact absurd hn ((p1.trans p2).al z (by rw [q0]; exact fun z => nomatch z))
  · rcases zz with (zz | zz) | zz
    · exact .inl (.inl zz)
    · exact .inr zz
    · exact .inl (.inr zz)

theorem pd_op {op : Operator} {r : R2} {g : D → D → Option D} {ha hb : HX} (ho : OpR X (binaryOp op) r) (hd : OpD X.K r g) (pa : PE X a (rdh X.K S ha)) (pb : PE X b (rdh X.K S hb)) : PE X (.BinOp a op b pos) (rd X.K S (eOp g ha hb)) :=
  peI (pe_op ho pa pb) fun σ H Q h => rd_op hd h
theorem po_op {op : Operator} {r : R2} {g : D → D → Option Ct} {ha hb : HX} (ho : OpR X (binaryOp op) r) (hd : OpO X.K r g) (pa : PE X a (rdh X.K S ha)) (pb : PE X b (rdh X.K S hb)) : PE X (.BinOp a op b pos) (rdO X.K S (oOp g ha hb)) :=
  peI (pe_op ho pa pb) fun σ H Q h => rdO_op hd h
theorem pd_cmp {op : CmpOp} {r : R2} {g : D → D → Option D} {ha hb : HX} (ho : OpR X (compareOp op) r) (hd : OpD X.K r g) (pa : PE X a (rdh X.K S ha)) (pb : PE X b (rdh X.K S hb)) (hm : behindInMarks op b = false) : PE X (.Compare a [op] [b] pos) (rd X.K S (eOp g ha hb)) :=
  peI (pe_cmpR ho pa pb hm) fun σ H Q h => rd_op hd h
/-- a value that is a truth, as a test -/
def bE (ev : EX) : BX := fun δ => (ev δ).bind fun p => match p.1 with
  | .bl b => some (b, p.2)
  | _ => none
theorem bE_inv {ev : EX} {b : Bool} (h : bE ev δ = some (b, δ')) : ev δ = some (.bl b, δ') := by
  obtain ⟨⟨d, δ1⟩, q1, q2⟩ := Option.bind_eq_some_iff.mp h
  cases d <;> cases q2
  exact q1
theorem rdT_of {ev : EX} {Q : Bool → Hp → Prop} (h : rdT K S (bE ev) σ H Q) : rd K S ev σ H fun x H' => ∃ c, x = .bl c ∧ Q c H' := by
  obtain ⟨δ, b, δ', s, q, k⟩ := h
  exact ⟨δ, _, δ', s, bE_inv q, fun v H' p r => by cases r; exact ⟨b, rfl, k H' p⟩⟩
theorem pdt_val {ev : EX} (h : PE X e (rd X.K S ev)) (he : ∀ whole, isTrue e X.env whole = (do let v ← whole; standAt e.pos; holding [v] (truthy v)) := by intro _; rfl) : PT X e (rdT X.K S (bE ev)) :=
  ptI (pt_val h he) fun σ H Q q => rdT_of q
theorem pdt_cmp {op : CmpOp} {r : R2} {g : D → D → Option D} {ha hb : HX} (ho : OpR X (compareOp op) r) (hd : OpD X.K r g) (pa : PE X a (rdh X.K S ha)) (pb : PE X b (rdh X.K S hb)) (hm : behindInMarks op b = false) :
    PT X (.Compare a [op] [b] pos) (rdT X.K S (bE (eOp g ha hb))) :=
  ptI (pt_cmpR ho pa pb hm) fun σ H Q q => rd_op hd (rdT_of q)
/-- a op b op' c -/
def eChain (g g' : D → D → Option D) (a b c : HX) : EX := fun δ => (a δ).bind fun p => (b p.2).bind fun q => (p.1.d q.2).bind fun x => (q.1.d q.2).bind fun y => (g x y).bind fun z => match z with
  | .bl true => (c q.2).bind fun r => (q.1.d r.2).bind fun y' => (r.1.d r.2).bind fun u => (g' y' u).bind fun z' => match z' with
    | .bl k => some (.bl k, r.2)
    | _ => none
  | .bl false => some (.bl false, q.2)
  | _ => none
theorem rd_chain {r r' : R2} {g g' : D → D → Option D} {ha hb hc : HX} {Q : VK} (hd : OpD K r g) (hd' : OpD K r' g') (h : rd K S (eChain g g' ha hb hc) σ H Q) : tChain r r' (rdh K S ha) (rdh K S hb) (rdh K S hc) σ H Q := by
  obtain ⟨δ, d, δe, s, q, k⟩ := h
  obtain ⟨⟨x, δ1⟩, q1, q2⟩ := Option.bind_eq_some_iff.mp q
  obtain ⟨⟨y, δ2⟩, q3, q4⟩ := Option.bind_eq_some_iff.mp q2
  obtain ⟨dx, q5, q6⟩ := Option.bind_eq_some_iff.mp q4
  obtain ⟨dy, q7, q8⟩ := Option.bind_eq_some_iff.mp q6
  obtain ⟨dz, q9, q10⟩ := Option.bind_eq_some_iff.mp q8
  refine ⟨δ, x, δ1, s, q1, fun v H1 p1 r1 => ⟨δ1, y, δ2, p1.sat, q3, fun u H2 p2 r2 => ?_⟩⟩
  refine hd _ H2 v u dx dy dz _ (fun a z => p2.sat.there z) ((r1.on p2).vw p2.sat q5) (r2.vw p2.sat q7) q9 fun z H3 ev3 rz => ?_
  have p3 : PostE K S δ σ H δ2 H3 := (p1.trans p2).grow ev3
  have r3 : HdOk K S δ2 σ H3 u y := r2.on ((PostE.refl p2.sat).grow ev3)
  cases dz with
  | bl kk =>
    cases rz
    cases kk with
    | false =>
      cases q10
      exact ⟨false, rfl, k _ H3 p3 (.bl false)⟩
    | true =>
      obtain ⟨⟨w, δ3⟩, q11, q12⟩ := Option.bind_eq_some_iff.mp q10
      obtain ⟨dy', q13, q14⟩ := Option.bind_eq_some_iff.mp q12
      obtain ⟨du, q15, q16⟩ := Option.bind_eq_some_iff.mp q14
      obtain ⟨dz', q17, q18⟩ := Option.bind_eq_some_iff.mp q16
      refine ⟨true, rfl, δ2, w, δ3, p3.sat, q11, fun t H4 p4 r4 => ?_⟩
      refine hd' _ H4 u t dy' du dz' Q (fun a z => p4.sat.there z) ((r3.on p4).vw p4.sat q13) (r4.vw p4.sat q15) q17 fun z' H5 ev5 rz' => ?_
      cases dz' <;> cases q18
      exact k _ H5 ((p3.trans p4).grow ev5) rz'
  | _ => cases q10
theorem pd_chain {op op' : CmpOp} {r r' : R2} {g g' : D → D → Option D} {ha hb hc : HX} (ho : OpR X (compareOp op) r) (ho' : OpR X (compareOp op') r') (hd : OpD X.K r g) (hd' : OpD X.K r' g') (pa : PE X a (rdh X.K S ha)) (pb : PE X b (rdh X.K S hb)) (pc : PE X c (rdh X.K S hc))
    (hm : lastMarks [op, op'] [b, c] = false := by with_unfolding_all rfl) : PE X (.Compare a [op, op'] [b, c] pos) (rd X.K S (eChain g g' ha hb hc)) :=
  peI (pe_chain ho ho' pa pb pc hm) fun σ H Q h => rd_chain hd hd' h
theorem pdt_chain {op op' : CmpOp} {r r' : R2} {g g' : D → D → Option D} {ha hb hc : HX} (ho : OpR X (compareOp op) r) (ho' : OpR X (compareOp op') r') (hd : OpD X.K r g) (hd' : OpD X.K r' g') (pa : PE X a (rdh X.K S ha)) (pb : PE X b (rdh X.K S hb)) (pc : PE X c (rdh X.K S hc))
    (hm : lastMarks [op, op'] [b, c] = false := by with_unfolding_all rfl) : PT X (.Compare a [op, op'] [b, c] pos) (rdT X.K S (bE (eChain g g' ha hb hc))) :=
  ptI (pt_chain ho ho' pa pb pc hm) fun σ H Q h => rd_chain hd hd' (rdT_of h)

/-! ### and, or, not, if -/
def bAnd (a b : BX) : BX := fun δ => (a δ).bind fun p => match p.1 with
  | true => b p.2
  | false => some (false, p.2)
def bOr (a b : BX) : BX := fun δ => (a δ).bind fun p => match p.1 with
  | true => some (true, p.2)
  | false => b p.2
def bNot (a : BX) : BX := fun δ => (a δ).bind fun p => some (!p.1, p.2)
variable {ba bb : BX} {rest : List Expr}
theorem pdw_and1 (h : PT X a (rdT X.K S ba)) : PW X (.BoolOp .And [a] pos) (rdT X.K S ba) := pw_and1 h
theorem pdw_or1 (h : PT X a (rdT X.K S ba)) : PW X (.BoolOp .Or [a] pos) (rdT X.K S ba) := pw_or1 h
theorem pdw_and (h : PT X a (rdT X.K S ba)) (h2 : PW X (.BoolOp .And (b :: rest) pos) (rdT X.K S bb)) : PW X (.BoolOp .And (a :: b :: rest) pos) (rdT X.K S (bAnd ba bb)) :=
  pwI (pw_and h h2) fun σ H Q ⟨δ, z, δ', s, q, k⟩ => by
    obtain ⟨⟨x, δ1⟩, q1, q2⟩ := Option.bind_eq_some_iff.mp q
    refine ⟨δ, x, δ1, s, q1, fun H1 p1 => ?_⟩
    cases x with
    | true => exact ⟨δ1, z, δ', p1.sat, q2, fun H2 p2 => k H2 (p1.trans p2)⟩
    | false => cases q2; exact k H1 p1
theorem pdw_or (h : PT X a (rdT X.K S ba)) (h2 : PW X (.BoolOp .Or (b :: rest) pos) (rdT X.K S bb)) : PW X (.BoolOp .Or (a :: b :: rest) pos) (rdT X.K S (bOr ba bb)) :=
  pwI (pw_or h h2) fun σ H Q ⟨δ, z, δ', s, q, k⟩ => by
    obtain ⟨⟨x, δ1⟩, q1, q2⟩ := Option.bind_eq_some_iff.mp q
    refine ⟨δ, x, δ1, s, q1, fun H1 p1 => ?_⟩
    cases x with
    | true => cases q2; exact k H1 p1
    | false => exact ⟨δ1, z, δ', p1.sat, q2, fun H2 p2 => k H2 (p1.trans p2)⟩
theorem pdt_bool (h : PW X e (rdT X.K S ba)) : PT X e (rdT X.K S ba) := h.pt
theorem pdt_not (h : PT X a (rdT X.K S ba)) : PT X (.UnaryOp .Not a pos) (rdT X.K S (bNot ba)) :=
  ptI (pt_not h) fun σ H Q ⟨δ, z, δ', s, q, k⟩ => by
    obtain ⟨⟨x, δ1⟩, q1, q2⟩ := Option.bind_eq_some_iff.mp q
    cases q2
    exact ⟨δ, x, δ1, s, q1, fun H1 p1 => k H1 p1⟩
/-- as values -/
def eAnd (a b : EX) : EX := fun δ => (a δ).bind fun p => match p.1 with
  | .bl true => b p.2
  | .bl false => some (.bl false, p.2)
  | _ => none
def eOr (a b : EX) : EX := fun δ => (a δ).bind fun p => match p.1 with
  | .bl true => some (.bl true, p.2)
  | .bl false => b p.2
  | _ => none
def eNot (a : EX) : EX := fun δ => (a δ).bind fun p => match p.1 with
  | .bl k => some (.bl (!k), p.2)
  | _ => none
variable {ea eb : EX}
theorem pd_one {op} (h : PE X a (rd X.K S ea)) : PE X (.BoolOp op [a] pos) (rd X.K S ea) := pe_one h
theorem pd_and (h : PE X a (rd X.K S ea)) (h2 : PE X (.BoolOp .And (b :: rest) pos) (rd X.K S eb)) : PE X (.BoolOp .And (a :: b :: rest) pos) (rd X.K S (eAnd ea eb)) :=
  peI (pe_and h h2) fun σ H Q ⟨δ, z, δ', s, q, k⟩ => by
    obtain ⟨⟨x, δ1⟩, q1, q2⟩ := Option.bind_eq_some_iff.mp q
    refine ⟨δ, x, δ1, s, q1, fun v H1 p1 r1 => ?_⟩
    cases x with
    | bl kk =>
      cases r1
      cases kk with
      | true => exact ⟨true, rfl, δ1, z, δ', p1.sat, q2, fun w H2 p2 r2 => k w H2 (p1.trans p2) r2⟩
      | false => cases q2; exact ⟨false, rfl, k _ H1 p1 (.bl false)⟩
    | _ => cases q2
theorem pd_or (h : PE X a (rd X.K S ea)) (h2 : PE X (.BoolOp .Or (b :: rest) pos) (rd X.K S eb)) : PE X (.BoolOp .Or (a :: b :: rest) pos) (rd X.K S (eOr ea eb)) :=
  peI (pe_or h h2) fun σ H Q ⟨δ, z, δ', s, q, k⟩ => by
    obtain ⟨⟨x, δ1⟩, q1, q2⟩ := Option.bind_eq_some_iff.mp q
    refine ⟨δ, x, δ1, s, q1, fun v H1 p1 r1 => ?_⟩
    cases x with
    | bl kk =>
      cases r1
      cases kk with
      | true => cases q2; exact ⟨true, rfl, k _ H1 p1 (.bl true)⟩
      | false => exact ⟨false, rfl, δ1, z, δ', p1.sat, q2, fun w H2 p2 r2 => k w H2 (p1.trans p2) r2⟩
    | _ => cases q2
theorem pd_not (h : PE X a (rd X.K S ea)) : PE X (.UnaryOp .Not a pos) (rd X.K S (eNot ea)) :=
  peI (pe_not h) fun σ H Q ⟨δ, z, δ', s, q, k⟩ => by
    obtain ⟨⟨x, δ1⟩, q1, q2⟩ := Option.bind_eq_some_iff.mp q
    refine ⟨δ, x, δ1, s, q1, fun v H1 p1 r1 => ?_⟩
    cases x with
    | bl kk => cases r1; cases q2; exact ⟨kk, rfl, k _ H1 p1 (.bl _)⟩
    | _ => cases q2
def eIf (t : BX) (a b : EX) : EX := fun δ => (t δ).bind fun p => match p.1 with
  | true => a p.2
  | false => b p.2
theorem pd_if (ht : PT X c (rdT X.K S ba)) (h : PE X a (rd X.K S ea)) (h2 : PE X b (rd X.K S eb)) : PE X (.IfExp c a b pos) (rd X.K S (eIf ba ea eb)) :=
  peI (pe_ifExp ht h h2) fun σ H Q ⟨δ, z, δ', s, q, k⟩ => by
    obtain ⟨⟨x, δ1⟩, q1, q2⟩ := Option.bind_eq_some_iff.mp q
    refine ⟨δ, x, δ1, s, q1, fun H1 p1 => ?_⟩
    cases x with
    | true => exact ⟨δ1, z, δ', p1.sat, q2, fun w H2 p2 r2 => k w H2 (p1.trans p2) r2⟩
    | false => exact ⟨δ1, z, δ', p1.sat, q2, fun w H2 p2 r2 => k w H2 (p1.trans p2) r2⟩
/-- is None -/
def eIsN (neg : Bool) (a : HX) : EX := fun δ => (a δ).bind fun p => (p.1.d p.2).bind fun d => match d with
  | .non => some (.bl (!neg), p.2)
  | _ => some (.bl neg, p.2)
theorem vw_non {T : Addr → Prop} (h : Vw K H T v d) : decide (v = .non) = (match d with | .non => true | _ => false) := by
  rcases h with h | ⟨a, c, rfl, r, e⟩
  · cases h <;> rfl
  · cases c <;> subst e <;> rfl
theorem rd_isN {neg : Bool} {ha : HX} {Q : VK} (h : rd K S (eIsN neg ha) σ H Q) : rdh K S ha σ H fun x H1 => Q (.bl (if neg then !decide (x = .non) else decide (x = .non))) H1 := by
  obtain ⟨δ, z, δ', s, q, k⟩ := h
  obtain ⟨⟨x, δ1⟩, q1, q2⟩ := Option.bind_eq_some_iff.mp q
  obtain ⟨dx, q3, q4⟩ := Option.bind_eq_some_iff.mp q2
  refine ⟨δ, x, δ1, s, q1, fun v H1 p1 r1 => ?_⟩
  have hv := vw_non (r1.vw p1.sat q3)
  show Q (.bl (if neg then !decide (v = .non) else decide (v = .non))) H1
  cases dx <;> cases q4 <;> rw [hv] <;> cases neg <;> exact k _ H1 p1 (.bl _)
theorem pd_isN {j pos'} {ha : HX} (h : PE X a (rdh X.K S ha)) : PE X (.Compare a [.Is] [.Constant .none j pos'] pos) (rd X.K S (eIsN false ha)) := peI (pe_cmp (pc_isN h)) fun σ H Q q => rd_isN q
theorem pd_notN {j pos'} {ha : HX} (h : PE X a (rdh X.K S ha)) : PE X (.Compare a [.IsNot] [.Constant .none j pos'] pos) (rd X.K S (eIsN true ha)) := peI (pe_cmp (pc_notN h)) fun σ H Q q => rd_isN q
theorem pdt_isN {j pos'} {ha : HX} (h : PE X a (rdh X.K S ha)) : PT X (.Compare a [.Is] [.Constant .none j pos'] pos) (rdT X.K S (bE (eIsN false ha))) := ptI (pt_cmp (pc_isN h)) fun σ H Q q => rd_isN (rdT_of q)
theorem pdt_notN {j pos'} {ha : HX} (h : PE X a (rdh X.K S ha)) : PT X (.Compare a [.IsNot] [.Constant .none j pos'] pos) (rdT X.K S (bE (eIsN true ha))) := ptI (pt_cmp (pc_notN h)) fun σ H Q q => rd_isN (rdT_of q)

/-! ### calls of built-ins -/
def eCall (g : List D → Option D) (t : AX) : EX := fun δ => (t δ).bind fun p => (hds p.2 p.1).bind fun ds => (g ds).bind fun z => some (z, p.2)
def oCall (g : List D → Option Ct) (t : AX) : OX := fun δ => (t δ).bind fun p => (hds p.2 p.1).bind fun ds => (g ds).bind fun z => some (z, p.2)
theorem rd_call {r : List V → Hp → VK → Prop} {g : List D → Option D} {t : AX} {Q : VK} (hd : CallD K r g) (h : rd K S (eCall g t) σ H Q) : tCB r (rdA K S t) σ H Q := by
  obtain ⟨δ, d, δe, s, q, k⟩ := h
  obtain ⟨⟨x, δ1⟩, q1, q2⟩ := Option.bind_eq_some_iff.mp q
  obtain ⟨ds, q3, q4⟩ := Option.bind_eq_some_iff.mp q2
  obtain ⟨dz, q5, q6⟩ := Option.bind_eq_some_iff.mp q4
  cases q6
  exact ⟨δ, x, δ1, s, q1, fun vs H1 p1 r1 => hd _ H1 vs ds d Q (fun a z => p1.sat.there z) (r1.vw p1.sat q3) q5 fun z H2 ev rz => k z H2 (p1.grow ev) rz⟩
theorem own_fin {a : Addr} {u : HO} {c : Ct} {Q : VK} (p1 : PostE K S δ σ H δ1 H1) (hn : H1 a = none) (rz : CRp K (upd H1 a u) (fun b => Sx S δ1 σ b ∨ b = a) a c)
    (k : ∀ a H', H a = none → PostE K S δ σ H δ1 H' → Sat K (fun b => S b ∨ b = a) δ1 σ H' → CRp K H' (Sx (fun b => S b ∨ b = a) δ1 σ) a c → Q (.ref a) H') : Q (.ref a) (upd H1 a u) := by
  refine k a _ ?_ (p1.grow (Ev.new hn)) (p1.sat.more hn) (rz.wid fun x zz => .inl ?_)
  · cases q0 : H a with
    | none => rfl
    | some o0 => exact absurd hn (p1.al a (by rw [q0]; exact fun z => nomatch z))
  · rcases zz with (zz | zz) | zz
    · exact .inl (.inl zz)
    · exact .inr zz
    · exact .inl (.inr zz)
theorem rdO_call {r : List V → Hp → VK → Prop} {g : List D → Option Ct} {t : AX} {Q : VK} (hd : CallO K r g) (h : rdO K S (oCall g t) σ H Q) : tCB r (rdA K S t) σ H Q := by
  obtain ⟨δ, d, δe, s, q, k⟩ := h
  obtain ⟨⟨x, δ1⟩, q1, q2⟩ := Option.bind_eq_some_iff.mp q
  obtain ⟨ds, q3, q4⟩ := Option.bind_eq_some_iff.mp q2
  obtain ⟨dz, q5, q6⟩ := Option.bind_eq_some_iff.mp q4
  cases q6
  exact ⟨δ, x, δ1, s, q1, fun vs H1 p1 r1 => hd _ H1 vs ds d Q (fun a z => p1.sat.there z) (r1.vw p1.sat q3) q5 fun z o hn rz => own_fin p1 hn rz k⟩
variable {es : List Expr} {x : Str} {p : Pos} {id : String}
theorem pd_callB {r : List V → Hp → VK → Prop} {g : List D → Option D} {t : AX} (hc : CallR X (.builtin id) r) (hd : CallD X.K r g) (hg : Gl X x) (hm : X.mg x = none) (hv : bootBuiltins x = some (.builtin id)) (ha : PA X (e :: es) (rdA X.K S t)) (hn : x ≠ "__name__" := by decide) (hdb : (x == ("__debug__" : Str)) = false := by decide)
    (he : starEach (e :: es) X.env = (false, eval e X.env) :: starEach es X.env := by rfl) (hpl : (backTo pos (starEach es X.env)).any (·.1) = false := by rfl) : PE X (.Call (.Name x p) (e :: es) [] pos) (rd X.K S (eCall g t)) :=
  peI (pe_callB hc hg hm hv ha hn hdb he hpl) fun σ H Q h => rd_call hd h
theorem po_callB {r : List V → Hp → VK → Prop} {g : List D → Option Ct} {t : AX} (hc : CallR X (.builtin id) r) (hd : CallO X.K r g) (hg : Gl X x) (hm : X.mg x = none) (hv : bootBuiltins x = some (.builtin id)) (ha : PA X (e :: es) (rdA X.K S t)) (hn : x ≠ "__name__" := by decide) (hdb : (x == ("__debug__" : Str)) = false := by decide)
    (he : starEach (e :: es) X.env = (false, eval e X.env) :: starEach es X.env := by rfl) (hpl : (backTo pos (starEach es X.env)).any (·.1) = false := by rfl) : PE X (.Call (.Name x p) (e :: es) [] pos) (rdO X.K S (oCall g t)) :=
  peI (pe_callB hc hg hm hv ha hn hdb he hpl) fun σ H Q h => rdO_call hd h
theorem pd_callT {r : List V → Hp → VK → Prop} {g : List D → Option D} {t : AX} (hc : CallR X (.type id) r) (hd : CallD X.K r g) (hg : Gl X x) (hm : X.mg x = none) (hv : bootBuiltins x = some (.type id)) (ha : PA X (e :: es) (rdA X.K S t)) (hn : x ≠ "__name__" := by decide) (hdb : (x == ("__debug__" : Str)) = false := by decide)
    (he : starEach (e :: es) X.env = (false, eval e X.env) :: starEach es X.env := by rfl) (hpl : (backTo pos (starEach es X.env)).any (·.1) = false := by rfl) : PE X (.Call (.Name x p) (e :: es) [] pos) (rd X.K S (eCall g t)) :=
  peI (pe_callTy hc hg hm hv ha hn hdb he hpl) fun σ H Q h => rd_call hd h
theorem po_callT {r : List V → Hp → VK → Prop} {g : List D → Option Ct} {t : AX} (hc : CallR X (.type id) r) (hd : CallO X.K r g) (hg : Gl X x) (hm : X.mg x = none) (hv : bootBuiltins x = some (.type id)) (ha : PA X (e :: es) (rdA X.K S t)) (hn : x ≠ "__name__" := by decide) (hdb : (x == ("__debug__" : Str)) = false := by decide)
    (he : starEach (e :: es) X.env = (false, eval e X.env) :: starEach es X.env := by rfl) (hpl : (backTo pos (starEach es X.env)).any (·.1) = false := by rfl) : PE X (.Call (.Name x p) (e :: es) [] pos) (rdO X.K S (oCall g t)) :=
  peI (pe_callTy hc hg hm hv ha hn hdb he hpl) fun σ H Q h => rdO_call hd h
/-- subscripts -/
theorem pd_ix {r : R2} {g : D → D → Option D} {ha hb : HX} (hr : IxR X r) (hd : OpD X.K r g) (pa : PE X a (rdh X.K S ha)) (pb : PE X b (rdh X.K S hb)) (hs : PlainIx b) : PE X (.Subscript a b pos) (rd X.K S (eOp g ha hb)) :=
  peI (pe_ix hr pa pb hs) fun σ H Q h => rd_op hd h
end
end DL

/-! DLd: the operators and built-ins by data. -/
namespace DL
open PySem PySem.Spec PyProof.Rows L2

section
variable {K : PySem.W.Frag} {S T : Addr → Prop} {H H' : Hp} {v w : V} {d : D} {ds : List D}
theorem OpD.or {r r' : R2} {g : D → D → Option D} {g1 g2 : D → D → Option D} (h : OpD K r g1) (h' : OpD K r' g2) (c : ∀ x y z, g x y = some z → g1 x y = some z ∨ g2 x y = some z) : OpD K (fun x y H Q => r x y H Q ∨ r' x y H Q) g :=
  fun T H x y dx dy dz Q al vx vy e k => (c dx dy dz e).elim (fun e => .inl (h T H x y dx dy dz Q al vx vy e k)) fun e => .inr (h' T H x y dx dy dz Q al vx vy e k)
theorem fresh_not {T : Addr → Prop} {H : Hp} (al : ∀ a, T a → H a ≠ none) {p : Addr} (n : H p = none) : ¬ T p := fun z => al p z n

/-! ### ints -/
def gI (f : Int → Int → Option D) : D → D → Option D
  | .int i, .int j => f i j
  | _, _ => none
theorem gI_inv {f : Int → Int → Option D} {x y z : D} (h : gI f x y = some z) : ∃ i j, x = .int i ∧ y = .int j ∧ f i j = some z := by
  cases x <;> cases y <;> first | exact ⟨_, _, rfl, rfl, h⟩ | cases h
theorem opD_I {C : Int → Int → Prop} {g : Int → Int → V} {f : Int → Int → Option D} (h : ∀ i j z, f i j = some z → C i j ∧ ∀ (K : PySem.W.Frag) H T, Rp K H T (g i j) z) : OpD K (rI C g) (gI f) := fun T H x y dx dy dz Q al vx vy e k => by
  obtain ⟨i, j, rfl, rfl, e2⟩ := gI_inv e
  obtain ⟨c, r⟩ := h i j dz e2
  exact ⟨i, j, vx.int, vy.int, c, k _ H Ev.refl (r K H T)⟩
theorem opD_I0 {g : Int → Int → V} {f : Int → Int → Option D} (h : ∀ i j z, f i j = some z → ∀ (K : PySem.W.Frag) H T, Rp K H T (g i j) z) : OpD K (rI0 g) (gI f) := fun T H x y dx dy dz Q al vx vy e k => by
  obtain ⟨i, j, rfl, rfl, e2⟩ := gI_inv e
  exact ⟨i, j, vx.int, vy.int, k _ H Ev.refl (h i j dz e2 K H T)⟩
def gSub : D → D → Option D := gI fun i j => some (.int (i - j))
theorem d_sub : OpD K (rI0 fun i j => .int (i - j)) gSub := opD_I0 fun i j z e K H T => by cases e; exact .int _
def small (i : Int) : Bool := decide (i.natAbs < 2 ^ 2000)
theorem log_small {i : Int} (h : small i = true) : i.natAbs.log2 < 2000 := by
  have h : i.natAbs < 2 ^ 2000 := of_decide_eq_true h
  by_cases z : i.natAbs = 0
  · rw [z]; decide
  · exact (Nat.log2_lt z).mpr h
def gMulI : D → D → Option D := gI fun i j => if small i && small j then some (.int (i * j)) else none
theorem d_mulI : OpD K (rI CMulW fun i j => .int (i * j)) gMulI := opD_I fun i j z e => by
  split at e
  · rename_i c
    cases e
    rw [Bool.and_eq_true] at c
    refine ⟨?_, fun _ _ _ => .int _⟩
    have h1 := log_small c.1
    have h2 := log_small c.2
    show _ + _ < 1000000
    omega
  · cases e
def gMod : D → D → Option D := gI fun i j => if 0 < j then some (.int (i % j)) else none
theorem d_mod : OpD K (rI (fun _ j => 0 < j) fun i j => .int (i % j)) gMod := opD_I fun i j z e => by
  split at e
  · rename_i c; cases e; exact ⟨c, fun _ _ _ => .int _⟩
  · cases e
def gDiv : D → D → Option D := gI fun i j => if decide (0 < j) && small j then some (.int (i / j)) else none
theorem d_div : OpD K (rI CDivW fun i j => .int (i / j)) gDiv := opD_I fun i j z e => by
  split at e
  · rename_i c
    cases e
    rw [Bool.and_eq_true] at c
    have h2 := log_small c.2
    exact ⟨⟨of_decide_eq_true c.1, by omega⟩, fun _ _ _ => .int _⟩
  · cases e
def gPow : D → D → Option D := gI fun i j => if decide (0 ≤ j) && decide (j ≤ 1000) && decide (i.natAbs < 2 ^ 64) then some (.int (i ^ j.toNat)) else none
theorem d_pow : OpD K (rI CPow fun i j => .int (i ^ j.toNat)) gPow := opD_I fun i j z e => by
  split at e
  · rename_i c
    cases e
    rw [Bool.and_eq_true, Bool.and_eq_true] at c
    have h1 := of_decide_eq_true c.1.1
    have h2 := of_decide_eq_true c.1.2
    have h3 := of_decide_eq_true c.2
    exact ⟨⟨h1, by omega, h3⟩, fun _ _ _ => .int _⟩
  · cases e
def gLt : D → D → Option D := gI fun i j => some (.bl (decide (i < j)))
def gLe : D → D → Option D := gI fun i j => some (.bl (decide (i ≤ j)))
def gGt : D → D → Option D := gI fun i j => some (.bl (decide (j < i)))
def gGe : D → D → Option D := gI fun i j => some (.bl (decide (j ≤ i)))
theorem d_lt : OpD K (rI0 fun i j => .bl (decide (i < j))) gLt := opD_I0 fun i j z e K H T => by cases e; exact .bl _
theorem d_le : OpD K (rI0 fun i j => .bl (decide (i ≤ j))) gLe := opD_I0 fun i j z e K H T => by cases e; exact .bl _
theorem d_gt : OpD K (rI0 fun i j => .bl (decide (j < i))) gGt := opD_I0 fun i j z e K H T => by cases e; exact .bl _
theorem d_ge : OpD K (rI0 fun i j => .bl (decide (j ≤ i))) gGe := opD_I0 fun i j z e K H T => by cases e; exact .bl _

/-! ### + -/
def gAddI : D → D → Option D := gI fun i j => some (.int (i + j))
theorem d_addI : OpD K (rI0 fun i j => .int (i + j)) gAddI := opD_I0 fun i j z e K H T => by cases e; exact .int _
def gAddS : D → D → Option D
  | .str x, .str y => if x.length + y.length ≤ lim then some (.str (x ++ y)) else none
  | _, _ => none
theorem d_addS : OpD K (fun x y H Q => ∃ i j, x = .str i ∧ y = .str j ∧ i.length + j.length ≤ sizeLine ∧ Q (.str (i ++ j)) H) gAddS := fun T H x y dx dy dz Q al vx vy e k => by
  cases dx <;> cases dy <;> first | cases e; done | skip
  rename_i a b
  have e : (if a.length + b.length ≤ lim then some (D.str (a ++ b)) else none) = some dz := e
  split at e
  · rename_i c; cases e
    exact ⟨a, b, vx.str, vy.str, lim_line c, k _ H Ev.refl (.str _)⟩
  · cases e
def gAddT : D → D → Option D
  | .tup x, .tup y => if x.length + y.length ≤ lim then some (.tup (x ++ y)) else none
  | _, _ => none
theorem d_addT : OpD K (rCatA K) gAddT := fun T H x y dx dy dz Q al vx vy e k => by
  cases dx <;> cases dy <;> first | cases e; done | skip
  rename_i a b
  have e : (if a.length + b.length ≤ lim then some (D.tup (a ++ b)) else none) = some dz := e
  split at e
  · rename_i c; cases e
    obtain ⟨p, xs, rfl, mx, rx⟩ := vx.tup
    obtain ⟨q, ys, rfl, my, ry⟩ := vy.tup
    have lx := rx.length
    have ly := ry.length
    refine ⟨p, q, xs, ys, rfl, rfl, mx.sq, my.sq, by rw [lx, ly]; exact lim_line c, fun z => ?_, fun _ z => ?_, fun _ _ l hl => ?_⟩
    · subst z
      cases rx
      exact k _ H Ev.refl (.tup my ry)
    · subst z
      cases ry
      exact k _ H Ev.refl (by rw [show a ++ ([] : List D) = a from List.append_nil a]; exact .tup mx rx)
    · have w : Wid H T T := Wid.refl
      exact k _ _ (Ev.new hl) (.tup (.inl ⟨fresh_not al hl, .inl upd_same⟩) ((rx.append ry).ev (M := fun _ => False) (Ev.new hl) (fun _ z => z.elim) w))
  · cases e
def cCat : D → D → Option Ct
  | .lst x, .lst y => if x.length + y.length ≤ lim then some (.lst (x ++ y)) else none
  | _, _ => none
theorem new_lst {a : Addr} {xs : List V} (hn : H a = none) (al : ∀ a, T a → H a ≠ none) (r : RpA K H T xs ds) : CRp K (upd H a (.lst xs)) (fun b => T b ∨ b = a) a (.lst ds) :=
  .lst upd_same (r.ev (M := fun _ => False) (Ev.new hn) (fun _ z => z.elim) fun x z => z.elim .inl fun z => .inr (by rw [z]; exact hn))
theorem o_cat : OpO K rCat cCat := fun T H x y dx dy dz Q al vx vy e k => by
  cases dx <;> cases dy <;> first | cases e; done | skip
  rename_i a b
  have e : (if a.length + b.length ≤ lim then some (Ct.lst (a ++ b)) else none) = some dz := e
  split at e
  · rename_i c; cases e
    obtain ⟨p, xs, rfl, mx, rx⟩ := vx.lst
    obtain ⟨q, ys, rfl, my, ry⟩ := vy.lst
    have lx := rx.length
    have ly := ry.length
    exact ⟨p, q, xs, ys, rfl, rfl, mx, my, by rw [lx, ly]; exact lim_line c, fun l hl => k l _ hl (new_lst hl al (rx.append ry))⟩
  · cases e
/-- a new object as data -/
theorem opD_of_o {r : R2} {g : D → D → Option Ct} (h : OpO K r g) : OpD K r (fun x y => (g x y).map Ct.d) := fun T H x y dx dy dz Q al vx vy e k => by
  obtain ⟨c, e1, e2⟩ := Option.map_eq_some_iff.mp e
  cases e2
  refine h T H x y dx dy c Q al vx vy e1 fun a u hn r => k _ _ (Ev.new hn) ?_
  exact CRp.rp (r.wid fun x z => .inl (.inl z)) (fresh_not al hn)
def gAddL : D → D → Option D := fun x y => (cCat x y).map Ct.d
def gAdd : D → D → Option D
  | .int i, .int j => some (.int (i + j))
  | .str x, .str y => if x.length + y.length ≤ lim then some (.str (x ++ y)) else none
  | .tup x, .tup y => if x.length + y.length ≤ lim then some (.tup (x ++ y)) else none
  | .lst x, .lst y => if x.length + y.length ≤ lim then some (.lst (x ++ y)) else none
  | _, _ => none
def rAddA (K : PySem.W.Frag) : R2 := fun x y H Q => (∃ i j, x = .int i ∧ y = .int j ∧ Q (.int (i + j)) H) ∨ (∃ i j, x = .str i ∧ y = .str j ∧ i.length + j.length ≤ sizeLine ∧ Q (.str (i ++ j)) H) ∨ rCatA K x y H Q ∨ rCat x y H Q
theorem r_add {X : Cx} : OpR X (binaryOp .Add) (rAddA X.K) := op_add.or (op_add_str.or (op_catA.or op_cat))
theorem d_add : OpD K (rAddA K) gAdd := fun T H x y dx dy dz Q al vx vy e k => by
  cases dx <;> cases dy <;> first | cases e; done | skip
  · exact .inl (d_addI T H x y _ _ dz Q al vx vy e k)
  · exact .inr (.inl (d_addS T H x y _ _ dz Q al vx vy e k))
  · rename_i a b
    refine .inr (.inr (.inr (opD_of_o o_cat T H x y _ _ dz Q al vx vy ?_ k)))
    have e : (if a.length + b.length ≤ lim then some (D.lst (a ++ b)) else none) = some dz := e
    show Option.map Ct.d (if a.length + b.length ≤ lim then some (Ct.lst (a ++ b)) else none) = some dz
    split at e
    · rename_i c; rw [if_pos c]; exact e
    · cases e
  · exact .inr (.inr (.inl (d_addT T H x y _ _ dz Q al vx vy e k)))

/-! ### * -/
def gMul : D → D → Option D
  | .int i, .int j => if small i && small j then some (.int (i * j)) else none
  | .lst x, .int j => if decide (0 ≤ j) && decide (x.length * j.toNat ≤ lim) && decide (j ≤ 4000000) then some (.lst (List.replicate j.toNat x).flatten) else none
  | .tup x, .int j => if decide (2 ≤ j) && decide (j ≤ 1000) && decide (x.length ≤ 1000) && !x.isEmpty then some (.tup (List.replicate j.toNat x).flatten) else none
  | _, _ => none
def cRep : D → D → Option Ct
  | .lst x, .int j => if decide (0 ≤ j) && decide (x.length * j.toNat ≤ lim) && decide (j ≤ 4000000) then some (.lst (List.replicate j.toNat x).flatten) else none
  | _, _ => none
theorem o_rep : OpO K rRep cRep := fun T H x y dx dy dz Q al vx vy e k => by
  cases dx <;> cases dy <;> first | cases e; done | skip
  rename_i a j
  have e : (if decide (0 ≤ j) && decide (a.length * j.toNat ≤ lim) && decide (j ≤ 4000000) then some (Ct.lst (List.replicate j.toNat a).flatten) else none) = some dz := e
  split at e
  · rename_i c; cases e
    rw [Bool.and_eq_true, Bool.and_eq_true] at c
    obtain ⟨p, xs, rfl, mx, rx⟩ := vx.lst
    have lx := rx.length
    exact ⟨p, j, xs, rfl, vy.int, mx, by have := of_decide_eq_true c.1.1; omega, by have := of_decide_eq_true c.2; omega, by rw [lx]; exact lim_line (of_decide_eq_true c.1.2), fun l hl => k l _ hl (new_lst hl al (rx.rep _))⟩
  · cases e
def rMulA (K : PySem.W.Frag) : R2 := fun x y H Q => (rI CMulW fun i j => .int (i * j)) x y H Q ∨ rRep x y H Q ∨ rRepT K x y H Q
theorem r_mul {X : Cx} : OpR X (binaryOp .Mult) (rMulA X.K) := op_mulW.or (op_rep.or op_repT)
theorem d_mul : OpD K (rMulA K) gMul := fun T H x y dx dy dz Q al vx vy e k => by
  cases dx <;> cases dy <;> first | cases e; done | skip
  · exact .inl (d_mulI T H x y _ _ dz Q al vx vy e k)
  · rename_i a j
    refine .inr (.inl (opD_of_o o_rep T H x y _ _ dz Q al vx vy ?_ k))
    have e : (if decide (0 ≤ j) && decide (a.length * j.toNat ≤ lim) && decide (j ≤ 4000000) then some (D.lst (List.replicate j.toNat a).flatten) else none) = some dz := e
    show Option.map Ct.d (if decide (0 ≤ j) && decide (a.length * j.toNat ≤ lim) && decide (j ≤ 4000000) then some (Ct.lst (List.replicate j.toNat a).flatten) else none) = some dz
    split at e
    · rename_i c; rw [if_pos c]; exact e
    · cases e
  · rename_i a j
    have e : (if decide (2 ≤ j) && decide (j ≤ 1000) && decide (a.length ≤ 1000) && !a.isEmpty then some (D.tup (List.replicate j.toNat a).flatten) else none) = some dz := e
    split at e
    · rename_i c; cases e
      simp only [Bool.and_eq_true, decide_eq_true_eq, Bool.not_eq_true'] at c
      obtain ⟨p, xs, rfl, mx, rx⟩ := vx.tup
      have lx := rx.length
      refine .inr (.inr ⟨p, j, xs, rfl, vy.int, mx.sq, fun z => ?_, c.1.1.1, c.1.1.2, by rw [lx]; exact c.1.2, fun l hl => k _ _ (Ev.new hl) (.tup (.inl ⟨fresh_not al hl, .inl upd_same⟩) ((rx.rep _).ev (M := fun _ => False) (Ev.new hl) (fun _ z => z.elim) Wid.refl))⟩)
      subst z
      cases rx
      exact absurd c.2 (by simp)
    · cases e
end
end DL

/-! DLe: == and in, len, sum .., subscripts, slices, displays by data. -/
namespace DL
open PySem PySem.Spec PyProof.Rows L2

/-! ### data of the library -/
mutual
def toPy : D → Option PyData
  | .non => some .none
  | .bl b => some (.bool b)
  | .int i => some (.int i)
  | .str x => some (.str x)
  | .lst xs => (toPyA xs).bind fun ys => some (.list ys)
  | .tup xs => (toPyA xs).bind fun ys => some (.tuple ys)
  | _ => none
def toPyA : List D → Option (List PyData)
  | [] => some []
  | x :: xs => (toPy x).bind fun y => (toPyA xs).bind fun ys => some (y :: ys)
end
section
variable {K : PySem.W.Frag} {S T : Addr → Prop} {H H' : Hp} {v w : V} {d : D} {ds : List D}
theorem ob {α β : Type} {a : Option α} {f : α → Option β} {c : β} (h : (a.bind f) = some c) : ∃ x, a = some x ∧ f x = some c := Option.bind_eq_some_iff.mp h
mutual
theorem dp_of : ∀ {v : V} {d : D} {p : PyData}, Rp K H T v d → toPy d = some p → Dp K H v p
  | _, _, _, .non, e => by cases e; exact .non
  | _, _, _, .bl b, e => by cases e; exact .bl b
  | _, _, _, .int i, e => by cases e; exact .int i
  | _, _, _, .str i, e => by cases e; exact .str i
  | _, _, _, .lst m r, e => by
    obtain ⟨ys, e1, e2⟩ := ob e
    cases e2
    exact .lst m.sq (dp_ofA r e1)
  | _, _, _, .tup m r, e => by
    obtain ⟨ys, e1, e2⟩ := ob e
    cases e2
    exact .tup m.sq (dp_ofA r e1)
  | _, _, _, .dk _ _ _, e => by cases e
  | _, _, _, .dt _ _ _, e => by cases e
  | _, _, _, .fn _, e => by cases e
  | _, _, _, .ty _, e => by cases e
  | _, _, _, .ro _ _, e => by cases e
theorem dp_ofA : ∀ {vs : List V} {ds : List D} {ps : List PyData}, RpA K H T vs ds → toPyA ds = some ps → DpAll K H vs ps
  | _, _, _, .nil, e => by cases e; exact .nil
  | _, _, _, .cons h t, e => by
    obtain ⟨y, e1, e2⟩ := ob e
    obtain ⟨ys, e3, e4⟩ := ob e2
    cases e4
    exact .cons (dp_of h e1) (dp_ofA t e3)
end
theorem dp_vw {p : PyData} (h : Vw K H T v d) (e : toPy d = some p) : Dp K H v p := by
  rcases h with h | ⟨a, c, rfl, r, e2⟩
  · exact dp_of h e
  · subst e2
    cases r with
    | lst q r =>
      obtain ⟨ys, e1, e2⟩ := ob e
      cases e2
      exact .lst (.inl (.inl q)) (dp_ofA r e1)
    | dk => cases e
    | dt => cases e
/-- x == y, by data -/
def dEq (x y : D) : Option Bool := (toPy x).bind fun a => (toPy y).bind fun b => if SeqAt.shaped a && SeqAt.shaped b then some (PyData.eqv a b) else none
def gEq (x y : D) : Option D := match x, y with
  | .str a, .str b => some (.bl (decide (a = b)))
  | x, y => (dEq x y).bind fun k => some (.bl k)
def gNe (x y : D) : Option D := (dEq x y).bind fun k => some (.bl (!k))
theorem dEq_inv {x y : D} {k : Bool} (h : dEq x y = some k) : ∃ a b, toPy x = some a ∧ toPy y = some b ∧ SeqAt.shaped a = true ∧ SeqAt.shaped b = true ∧ PyData.eqv a b = k := by
  obtain ⟨a, e1, h⟩ := ob h
  obtain ⟨b, e2, h⟩ := ob h
  split at h
  · rename_i c
    rw [Bool.and_eq_true] at c
    cases h
    exact ⟨a, b, e1, e2, c.1, c.2, rfl⟩
  · cases h
def rEqA (K : PySem.W.Frag) : R2 := fun x y H Q => rEqD K x y H Q ∨ L2.rEq x y H Q
theorem r_eq {X : Cx} (hu : X.A.units + 64 < cLine) : OpR X (compareOp .Eq) (rEqA X.K) := (op_eqD hu).or L2.op_eq
theorem d_eq : OpD K (rEqA K) gEq := fun T H x y dx dy dz Q al vx vy e k => by
  unfold gEq at e
  split at e
  · rename_i a b
    cases e
    rw [vx.str, vy.str]
    have e2 : decide (V.str a = V.str b) = decide (a = b) := decide_eq_decide.mpr ⟨fun z => by injection z, fun z => by rw [z]⟩
    exact .inr ⟨rfl, by rw [e2]; exact k _ H Ev.refl (.bl _)⟩
  · obtain ⟨kk, e1, e2⟩ := ob e
    cases e2
    obtain ⟨a, b, q1, q2, q3, q4, q5⟩ := dEq_inv e1
    exact .inl ⟨a, b, dp_vw vx q1, dp_vw vy q2, q3, q4, by rw [q5]; exact k _ H Ev.refl (.bl _)⟩
theorem d_ne : OpD K (rNeD K) gNe := fun T H x y dx dy dz Q al vx vy e k => by
  obtain ⟨kk, e1, e2⟩ := ob e
  cases e2
  obtain ⟨a, b, h1, h2, h3, h4, h5⟩ := dEq_inv e1
  exact ⟨a, b, dp_vw vx h1, dp_vw vy h2, h3, h4, by rw [h5]; exact k _ H Ev.refl (.bl _)⟩
/-- x in xs, a list of data -/
def dIn (x y : D) : Option Bool := match y with
  | .lst ys => (toPy x).bind fun a => (toPyA ys).bind fun bs => if SeqAt.shaped a && SeqAt.shaped (.list bs) then some (bs.any fun z => PyData.eqv z a) else none
  | _ => none
def gInL (x y : D) : Option D := (dIn x y).bind fun k => some (.bl k)
def gNotInL (x y : D) : Option D := (dIn x y).bind fun k => some (.bl (!k))
theorem dIn_inv {x y : D} {k : Bool} (h : dIn x y = some k) : ∃ ys a bs, y = .lst ys ∧ toPy x = some a ∧ toPy y = some (.list bs) ∧ SeqAt.shaped a = true ∧ SeqAt.shaped (.list bs) = true ∧ (bs.any fun z => PyData.eqv z a) = k := by
  cases y with
  | lst ys =>
    obtain ⟨a, e1, h⟩ := ob h
    obtain ⟨b, e2, h⟩ := ob h
    split at h
    · rename_i c
      rw [Bool.and_eq_true] at c
      cases h
      refine ⟨ys, a, b, rfl, e1, ?_, c.1, c.2, rfl⟩
      show (toPyA ys).bind _ = _
      rw [e2]; rfl
    · cases h
  | _ => cases h
theorem d_inL : OpD K (rInD K) gInL := fun T H x y dx dy dz Q al vx vy e k => by
  obtain ⟨kk, e1, e2⟩ := ob e
  cases e2
  obtain ⟨ys, a, bs, h0, h1, h2, h3, h4, h5⟩ := dIn_inv e1
  exact ⟨a, bs, dp_vw vx h1, dp_vw vy h2, h3, h4, by rw [h5]; exact k _ H Ev.refl (.bl _)⟩
theorem d_notInL : OpD K (rNotInD K) gNotInL := fun T H x y dx dy dz Q al vx vy e k => by
  obtain ⟨kk, e1, e2⟩ := ob e
  cases e2
  obtain ⟨ys, a, bs, h0, h1, h2, h3, h4, h5⟩ := dIn_inv e1
  exact ⟨a, bs, dp_vw vx h1, dp_vw vy h2, h3, h4, by rw [h5]; exact k _ H Ev.refl (.bl _)⟩

/-! ### subscripts -/
def gIx : D → D → Option D
  | .lst xs, .int i => atI xs i
  | .tup xs, .int i => atI xs i
  | .str z, .int i => if z.length ≤ lim then (atI z.cps.toList i).map fun c => .str ⟨#[c]⟩ else none
  | _, _ => none
theorem rpa_atI {vs : List V} {i : Int} (r : RpA K H T vs ds) (h : atI ds i = some d) : ∃ v, atI vs i = some v ∧ Rp K H T v d := by
  unfold atI at h ⊢
  rw [r.length]
  cases q : ixN ds.length i with
  | none => rw [q] at h; cases h
  | some j => rw [q] at h; exact r.get h
theorem d_ix : OpD K (rIx K) gIx := fun T H x y dx dy dz Q al vx vy e k => by
  cases dx <;> cases dy <;> first | cases e; done | skip
  · rename_i z i
    have e : (if z.length ≤ lim then (atI z.cps.toList i).map fun c => D.str ⟨#[c]⟩ else none) = some dz := e
    split at e
    · rename_i c
      obtain ⟨cc, e1, e2⟩ := Option.map_eq_some_iff.mp e
      cases e2
      exact .inr (.inr ⟨z, i, cc, vx.str, vy.int, lim_line c, e1, k _ H Ev.refl (.str _)⟩)
    · cases e
  · obtain ⟨p, xs, rfl, mx, rx⟩ := vx.lst
    obtain ⟨v, e1, r1⟩ := rpa_atI rx e
    exact .inl ⟨p, xs, _, v, rfl, vy.int, .inl (.inl mx), e1, k v H Ev.refl r1⟩
  · obtain ⟨p, xs, rfl, mx, rx⟩ := vx.tup
    obtain ⟨v, e1, r1⟩ := rpa_atI rx e
    exact .inr (.inl ⟨p, xs, _, v, rfl, vy.int, mx.sq, e1, k v H Ev.refl r1⟩)

/-! ### calls -/
theorem vwa1 {vs : List V} (h : VwA K H T vs [d]) : ∃ v, vs = [v] ∧ Vw K H T v d := by
  cases h with
  | cons a b => cases b; exact ⟨_, rfl, a⟩
theorem vwa2 {vs : List V} {d2 : D} (h : VwA K H T vs [d, d2]) : ∃ v w, vs = [v, w] ∧ Vw K H T v d ∧ Vw K H T w d2 := by
  cases h with
  | cons a b =>
    obtain ⟨w, rfl, c⟩ := vwa1 b
    exact ⟨_, w, rfl, a, c⟩
def g1 (f : D → Option D) : List D → Option D
  | [x] => f x
  | _ => none
theorem g1_inv {f : D → Option D} {ds : List D} {z : D} (h : g1 f ds = some z) : ∃ x, ds = [x] ∧ f x = some z := by
  match ds, h with
  | [x], h => exact ⟨x, rfl, h⟩
def c1 (f : D → Option Ct) : List D → Option Ct
  | [x] => f x
  | _ => none
theorem c1_inv {f : D → Option Ct} {ds : List D} {z : Ct} (h : c1 f ds = some z) : ∃ x, ds = [x] ∧ f x = some z := by
  match ds, h with
  | [x], h => exact ⟨x, rfl, h⟩
def dLen : D → Option D
  | .lst xs => some (.int xs.length)
  | .tup xs => some (.int xs.length)
  | .str z => if z.length ≤ lim then some (.int z.length) else none
  | _ => none
def rLenA (K : PySem.W.Frag) : List V → Hp → VK → Prop := fun xs H Q => (∃ p ys, xs = [.ref p] ∧ (SqL K H p ys ∨ SqT K H p ys) ∧ Q (.int ys.length) H) ∨ ∃ z, xs = [.str z] ∧ z.length ≤ sizeLine ∧ Q (.int z.length) H
theorem c_len {X : Cx} : CallR X (.builtin "len") (rLenA X.K) := call_len_seq.or call_len_str
theorem d_len : CallD K (rLenA K) (g1 dLen) := fun T H xs ds dz Q al h e k => by
  obtain ⟨x, rfl, e1⟩ := g1_inv e
  clear e
  obtain ⟨v, rfl, hv⟩ := vwa1 h
  cases x <;> first | cases e1; done | skip
  · rename_i z
    have e1 : (if z.length ≤ lim then some (D.int z.length) else none) = some dz := e1
    split at e1
    · rename_i c; cases e1; exact .inr ⟨z, by rw [hv.str], lim_line c, k _ H Ev.refl (.int _)⟩
    · cases e1
  · cases e1
    obtain ⟨p, xs, rfl, mx, rx⟩ := hv.lst
    exact .inl ⟨p, xs, rfl, .inl (.inl (.inl mx)), by rw [rx.length]; exact k _ H Ev.refl (.int _)⟩
  · cases e1
    obtain ⟨p, xs, rfl, mx, rx⟩ := hv.tup
    exact .inl ⟨p, xs, rfl, .inr mx.sq, by rw [rx.length]; exact k _ H Ev.refl (.int _)⟩
def dInt : D → Option D
  | .int i => some (.int i)
  | .bl b => some (.int (if b then 1 else 0))
  | _ => none
theorem d_int : CallD K (fun xs H Q => (∃ i, xs = [.int i] ∧ Q (.int i) H) ∨ ∃ k, xs = [.bl k] ∧ Q (.int (if k then 1 else 0)) H) (g1 dInt) := fun T H xs ds dz Q al h e k => by
  obtain ⟨x, rfl, e1⟩ := g1_inv e
  clear e
  obtain ⟨v, rfl, hv⟩ := vwa1 h
  cases x <;> first | cases e1; done | skip
  · rename_i b; cases e1; exact .inr ⟨b, by rw [hv.bl], k _ H Ev.refl (.int _)⟩
  · rename_i i; cases e1; exact .inl ⟨i, by rw [hv.int], k _ H Ev.refl (.int _)⟩
def dAbs : D → Option D
  | .int i => some (.int (if i < 0 then -i else i))
  | _ => none
theorem d_abs : CallD K (fun xs H Q => ∃ i, xs = [.int i] ∧ Q (.int (if i < 0 then -i else i)) H) (g1 dAbs) := fun T H xs ds dz Q al h e k => by
  obtain ⟨x, rfl, e1⟩ := g1_inv e
  clear e
  obtain ⟨v, rfl, hv⟩ := vwa1 h
  cases x <;> first | cases e1; done | skip
  rename_i i; cases e1; exact ⟨i, by rw [hv.int], k _ H Ev.refl (.int _)⟩
def asInts : List D → Option (List Int)
  | [] => some []
  | .int i :: r => (asInts r).map (i :: ·)
  | _ => none
theorem asInts_inv : ∀ {ds : List D} {ns : List Int}, asInts ds = some ns → ds = ns.map D.int
  | [], _, h => by cases h; rfl
  | .int i :: r, _, h => by
    obtain ⟨ns', e1, e2⟩ := Option.map_eq_some_iff.mp h
    subst e2
    rw [List.map_cons, asInts_inv e1]
  | .non :: _, _, h => by cases h
  | .bl _ :: _, _, h => by cases h
  | .str _ :: _, _, h => by cases h
  | .lst _ :: _, _, h => by cases h
  | .tup _ :: _, _, h => by cases h
  | .dk _ _ :: _, _, h => by cases h
  | .dt _ _ :: _, _, h => by cases h
  | .fn _ :: _, _, h => by cases h
  | .ty _ :: _, _, h => by cases h
  | .ro _ :: _, _, h => by cases h
theorem asInts_map : ∀ (ns : List Int), asInts (ns.map D.int) = some ns
  | [] => rfl
  | n :: ns => by show (asInts (ns.map D.int)).map (n :: ·) = _; rw [asInts_map ns]; rfl
theorem vw_ints {ns : List Int} (h : Vw K H T v (.lst (ns.map D.int))) : ∃ a, v = .ref a ∧ SqL K H a (ns.map V.int) := by
  obtain ⟨p, xs, rfl, mx, rx⟩ := h.lst
  exact ⟨p, rfl, by rw [← rx.ints]; exact .inl (.inl mx)⟩
def onInts (f : List Int → Option D) : D → Option D
  | .lst ds => (asInts ds).bind f
  | _ => none
theorem onInts_inv {f : List Int → Option D} {x z : D} (h : onInts f x = some z) : ∃ ns, x = .lst (ns.map D.int) ∧ f ns = some z := by
  cases x with
  | lst ds =>
    obtain ⟨ns, e1, e2⟩ := ob h
    exact ⟨ns, by rw [asInts_inv e1], e2⟩
  | _ => cases h
def dSum : D → Option D := onInts fun ns => some (.int ns.sum)
theorem d_sum : CallD K (rSum K) (g1 dSum) := fun T H xs ds dz Q al h e k => by
  obtain ⟨x, rfl, e1⟩ := g1_inv e
  clear e
  obtain ⟨v, rfl, hv⟩ := vwa1 h
  obtain ⟨ns, rfl, e5⟩ := onInts_inv e1
  cases e5
  obtain ⟨a, rfl, hq⟩ := vw_ints hv
  exact ⟨a, ns, rfl, hq, k _ H Ev.refl (.int _)⟩
def maxI : List Int → Option Int
  | [] => none
  | x :: r => some (r.foldl max x)
def minI : List Int → Option Int
  | [] => none
  | x :: r => some (r.foldl min x)
theorem foldl_max : ∀ (r : List Int) (x : Int), (r.foldl max x ∈ x :: r) ∧ ∀ y ∈ x :: r, y ≤ r.foldl max x
  | [], x => by simp
  | z :: r, x => by
    obtain ⟨h1, h2⟩ := foldl_max r (max x z)
    refine ⟨?_, fun y hy => ?_⟩
    · rw [List.foldl_cons]
      rcases List.mem_cons.mp h1 with e | e
      · rw [e]
        by_cases c : x ≤ z
        · rw [Int.max_eq_right c]; simp
        · rw [Int.max_eq_left (by omega)]; simp
      · exact List.mem_cons_of_mem _ (List.mem_cons_of_mem _ e)
    · rw [List.foldl_cons]
      have h3 := h2 (max x z) (by simp)
      rcases List.mem_cons.mp hy with e | hy
      · omega
      · rcases List.mem_cons.mp hy with e | hy
        · omega
        · exact h2 y (List.mem_cons_of_mem _ hy)
theorem foldl_min : ∀ (r : List Int) (x : Int), (r.foldl min x ∈ x :: r) ∧ ∀ y ∈ x :: r, r.foldl min x ≤ y
  | [], x => by simp
  | z :: r, x => by
    obtain ⟨h1, h2⟩ := foldl_min r (min x z)
    refine ⟨?_, fun y hy => ?_⟩
    · rw [List.foldl_cons]
      rcases List.mem_cons.mp h1 with e | e
      · rw [e]
        by_cases c : x ≤ z
        · rw [Int.min_eq_left c]; simp
        · rw [Int.min_eq_right (by omega)]; simp
      · exact List.mem_cons_of_mem _ (List.mem_cons_of_mem _ e)
    · rw [List.foldl_cons]
      have h3 := h2 (min x z) (by simp)
      rcases List.mem_cons.mp hy with e | hy
      · omega
      · rcases List.mem_cons.mp hy with e | hy
        · omega
        · exact h2 y (List.mem_cons_of_mem _ hy)
def dMaxL : D → Option D := onInts fun ns => (maxI ns).map .int
def dMinL : D → Option D := onInts fun ns => (minI ns).map .int
theorem d_maxL : CallD K (rMax K) (g1 dMaxL) := fun T H xs ds dz Q al h e k => by
  obtain ⟨x, rfl, e1⟩ := g1_inv e
  clear e
  obtain ⟨v, rfl, hv⟩ := vwa1 h
  obtain ⟨ns, rfl, e5⟩ := onInts_inv e1
  obtain ⟨a, rfl, hq⟩ := vw_ints hv
  cases ns with
  | nil => cases e5
  | cons y r =>
    cases e5
    refine ⟨a, y :: r, rfl, hq, Nat.succ_pos _, fun m hm hle => ?_⟩
    obtain ⟨h1, h2⟩ := foldl_max r y
    have e : m = r.foldl max y := Int.le_antisymm (h2 m hm) (hle _ h1)
    rw [e]; exact k _ H Ev.refl (.int _)
theorem d_minL : CallD K (rMin K) (g1 dMinL) := fun T H xs ds dz Q al h e k => by
  obtain ⟨x, rfl, e1⟩ := g1_inv e
  clear e
  obtain ⟨v, rfl, hv⟩ := vwa1 h
  obtain ⟨ns, rfl, e5⟩ := onInts_inv e1
  obtain ⟨a, rfl, hq⟩ := vw_ints hv
  cases ns with
  | nil => cases e5
  | cons y r =>
    cases e5
    refine ⟨a, y :: r, rfl, hq, Nat.succ_pos _, fun m hm hle => ?_⟩
    obtain ⟨h1, h2⟩ := foldl_min r y
    have e : m = r.foldl min y := Int.le_antisymm (hle _ h1) (h2 m hm)
    rw [e]; exact k _ H Ev.refl (.int _)
def g2I (f : Int → Int → Int) : List D → Option D
  | [.int i, .int j] => some (.int (f i j))
  | _ => none
theorem g2I_inv {f : Int → Int → Int} {ds : List D} {z : D} (h : g2I f ds = some z) : ∃ i j, ds = [.int i, .int j] ∧ z = .int (f i j) := by
  unfold g2I at h
  split at h
  · cases h; exact ⟨_, _, rfl, rfl⟩
  · cases h
theorem d_max2 : CallD K (fun xs H Q => ∃ i j, xs = [.int i, .int j] ∧ Q (.int (if j > i then j else i)) H) (g2I fun i j => if j > i then j else i) := fun T H xs ds dz Q al h e k => by
  obtain ⟨i, j, rfl, rfl⟩ := g2I_inv e
  obtain ⟨v, w, rfl, hv, hw⟩ := vwa2 h
  exact ⟨i, j, by rw [hv.int, hw.int], k _ H Ev.refl (.int _)⟩
theorem d_min2 : CallD K (fun xs H Q => ∃ i j, xs = [.int i, .int j] ∧ Q (.int (if j < i then j else i)) H) (g2I fun i j => if j < i then j else i) := fun T H xs ds dz Q al h e k => by
  obtain ⟨i, j, rfl, rfl⟩ := g2I_inv e
  obtain ⟨v, w, rfl, hv, hw⟩ := vwa2 h
  exact ⟨i, j, by rw [hv.int, hw.int], k _ H Ev.refl (.int _)⟩
def asBls : List D → Option (List Bool)
  | [] => some []
  | .bl i :: r => (asBls r).map (i :: ·)
  | _ => none
theorem asBls_inv : ∀ {ds : List D} {ns : List Bool}, asBls ds = some ns → ds = ns.map D.bl
  | [], _, h => by cases h; rfl
  | .bl i :: r, _, h => by
    obtain ⟨ns', e1, e2⟩ := Option.map_eq_some_iff.mp h
    subst e2
    rw [List.map_cons, asBls_inv e1]
  | .non :: _, _, h => by cases h
  | .int _ :: _, _, h => by cases h
  | .str _ :: _, _, h => by cases h
  | .lst _ :: _, _, h => by cases h
  | .tup _ :: _, _, h => by cases h
  | .dk _ _ :: _, _, h => by cases h
  | .dt _ _ :: _, _, h => by cases h
  | .fn _ :: _, _, h => by cases h
  | .ty _ :: _, _, h => by cases h
  | .ro _ :: _, _, h => by cases h
theorem asBls_map : ∀ (ns : List Bool), asBls (ns.map D.bl) = some ns
  | [] => rfl
  | n :: ns => by show (asBls (ns.map D.bl)).map (n :: ·) = _; rw [asBls_map ns]; rfl
def onBls (f : List Bool → D) : D → Option D
  | .lst ds => (asBls ds).map f
  | _ => none
theorem onBls_inv {f : List Bool → D} {x z : D} (h : onBls f x = some z) : ∃ ns, x = .lst (ns.map D.bl) ∧ f ns = z := by
  cases x with
  | lst ds =>
    obtain ⟨ns, e1, e2⟩ := Option.map_eq_some_iff.mp h
    exact ⟨ns, by rw [asBls_inv e1], e2⟩
  | _ => cases h
theorem vw_bls {ns : List Bool} (h : Vw K H T v (.lst (ns.map D.bl))) : ∃ a, v = .ref a ∧ SqL K H a (ns.map V.bl) := by
  obtain ⟨p, xs, rfl, mx, rx⟩ := h.lst
  exact ⟨p, rfl, by rw [← rx.bls]; exact .inl (.inl mx)⟩
def dAll : D → Option D := onBls fun ns => .bl (ns.all id)
def dAny : D → Option D := onBls fun ns => .bl (ns.any id)
theorem d_all : CallD K (rAll K) (g1 dAll) := fun T H xs ds dz Q al h e k => by
  obtain ⟨x, rfl, e1⟩ := g1_inv e
  clear e
  obtain ⟨v, rfl, hv⟩ := vwa1 h
  obtain ⟨ns, rfl, rfl⟩ := onBls_inv e1
  obtain ⟨a, rfl, hq⟩ := vw_bls hv
  exact ⟨a, ns, rfl, hq, k _ H Ev.refl (.bl _)⟩
theorem d_any : CallD K (rAny K) (g1 dAny) := fun T H xs ds dz Q al h e k => by
  obtain ⟨x, rfl, e1⟩ := g1_inv e
  clear e
  obtain ⟨v, rfl, hv⟩ := vwa1 h
  obtain ⟨ns, rfl, rfl⟩ := onBls_inv e1
  obtain ⟨a, rfl, hq⟩ := vw_bls hv
  exact ⟨a, ns, rfl, hq, k _ H Ev.refl (.bl _)⟩
/-- list(x) -/
def cList : D → Option Ct
  | .lst xs => some (.lst xs)
  | .tup xs => some (.lst xs)
  | .ro xs => some (.lst xs)
  | _ => none
theorem o_list : CallO K (fun xs H Q => ∃ p ys, xs = [.ref p] ∧ (SqL K H p ys ∨ SqT K H p ys) ∧ ∀ l, H l = none → Q (.ref l) (upd H l (.lst ys))) (c1 cList) := fun T H xs ds dz Q al h e k => by
  obtain ⟨x, rfl, e1⟩ := c1_inv e
  clear e
  obtain ⟨v, rfl, hv⟩ := vwa1 h
  cases x <;> first | cases e1; done | skip
  · cases e1
    obtain ⟨p, xs, rfl, mx, rx⟩ := hv.lst
    exact ⟨p, xs, rfl, .inl (.inl (.inl mx)), fun l hl => k l _ hl (new_lst hl al rx)⟩
  · cases e1
    obtain ⟨p, xs, rfl, mx, rx⟩ := hv.tup
    exact ⟨p, xs, rfl, .inr mx.sq, fun l hl => k l _ hl (new_lst hl al rx)⟩
  · cases e1
    obtain ⟨p, xs, rfl, mx, rx⟩ := hv.ro
    exact ⟨p, xs, rfl, .inl mx.sq, fun l hl => k l _ hl (new_lst hl al rx)⟩
theorem new_tup {a : Addr} {xs : List V} (hn : H a = none) (al : ∀ a, T a → H a ≠ none) (r : RpA K H T xs ds) : Rp K (upd H a (.tup xs)) T (.ref a) (.tup ds) :=
  .tup (.inl ⟨fresh_not al hn, .inl upd_same⟩) (r.ev (M := fun _ => False) (Ev.new hn) (fun _ z => z.elim) Wid.refl)
/-- tuple(x) -/
def dTuple : D → Option D
  | .lst xs => some (.tup xs)
  | .tup xs => some (.tup xs)
  | _ => none
theorem d_tuple : CallD K (fun xs H Q => ∃ p ys, xs = [.ref p] ∧ ((SqL K H p ys ∧ ∀ l, H l = none → Q (.ref l) (upd H l (.tup ys))) ∨ (SqT K H p ys ∧ Q (.ref p) H))) (g1 dTuple) := fun T H xs ds dz Q al h e k => by
  obtain ⟨x, rfl, e1⟩ := g1_inv e
  clear e
  obtain ⟨v, rfl, hv⟩ := vwa1 h
  cases x <;> first | cases e1; done | skip
  · cases e1
    obtain ⟨p, xs, rfl, mx, rx⟩ := hv.lst
    exact ⟨p, xs, rfl, .inl ⟨.inl (.inl mx), fun l hl => k _ _ (Ev.new hl) (new_tup hl al rx)⟩⟩
  · cases e1
    obtain ⟨p, xs, rfl, mx, rx⟩ := hv.tup
    exact ⟨p, xs, rfl, .inr ⟨mx.sq, k _ H Ev.refl (.tup mx rx)⟩⟩
/-- sorted(x), ints -/
def insI (x : Int) : List Int → List Int
  | [] => [x]
  | y :: r => if x ≤ y then x :: y :: r else y :: insI x r
def sortI : List Int → List Int
  | [] => []
  | x :: r => insI x (sortI r)
theorem insI_perm (x : Int) : ∀ l : List Int, (insI x l).Perm (x :: l)
  | [] => .refl _
  | y :: r => by
    unfold insI
    split
    · exact .refl _
    · exact .trans (.cons y (insI_perm x r)) (.swap x y r)
theorem insI_sorted (x : Int) : ∀ l : List Int, l.Pairwise (· ≤ ·) → (insI x l).Pairwise (· ≤ ·)
  | [], _ => by simp [insI]
  | y :: r, h => by
    unfold insI
    have h1 := List.pairwise_cons.mp h
    split
    · rename_i c
      refine List.pairwise_cons.mpr ⟨fun z hz => ?_, h⟩
      rcases List.mem_cons.mp hz with e | hz
      · omega
      · have := h1.1 z hz; omega
    · rename_i c
      refine List.pairwise_cons.mpr ⟨fun z hz => ?_, insI_sorted x r h1.2⟩
      rcases List.mem_cons.mp ((insI_perm x r).mem_iff.mp hz) with e | hz
      · omega
      · exact h1.1 z hz
theorem sortI_perm : ∀ l : List Int, (sortI l).Perm l
  | [] => .refl _
  | x :: r => .trans (insI_perm x (sortI r)) (.cons x (sortI_perm r))
theorem sortI_sorted : ∀ l : List Int, (sortI l).Pairwise (· ≤ ·)
  | [] => .nil
  | x :: r => insI_sorted x _ (sortI_sorted r)
theorem sorted_one {a b : List Int} (p : a.Perm b) (h1 : a.Pairwise (· ≤ ·)) (h2 : b.Pairwise (· ≤ ·)) : a = b := p.eq_of_pairwise (le := (· ≤ ·)) (fun x y _ _ h h' => Int.le_antisymm h h') h1 h2
def cSortI : D → Option Ct
  | .lst ds => (asInts ds).map fun ns => .lst ((sortI ns).map D.int)
  | _ => none
theorem o_sortI : CallO K (rSortedI K) (c1 cSortI) := fun T H xs ds dz Q al h e k => by
  obtain ⟨x, rfl, e1⟩ := c1_inv e
  clear e
  obtain ⟨v, rfl, hv⟩ := vwa1 h
  cases x <;> first | cases e1; done | skip
  rename_i zs
  obtain ⟨ns, e4, e2⟩ := Option.map_eq_some_iff.mp e1
  subst e2
  rw [asInts_inv e4] at hv
  obtain ⟨a, rfl, hq⟩ := vw_ints hv
  refine ⟨a, ns, rfl, hq, fun ns' p hp hs hn => ?_⟩
  have e3 : ns' = sortI ns := sorted_one (hp.trans (sortI_perm ns).symm) hs (sortI_sorted ns)
  rw [e3]
  exact k p _ hn (new_lst hn al (RpA.ofInts _))
end
end DL

/-! DLf: slices, displays, what is walked, comprehensions by data. -/
namespace DL
open PySem PySem.Spec PyProof.Rows L2

section
variable {K : PySem.W.Frag} {S T : Addr → Prop} {δ δ1 δ2 δ' : DEnv} {σ : L2.St} {H H1 H2 H' : Hp} {v w : V} {d : D} {ds : List D}
variable {X : Cx} {e a b c : Expr} {pos p2 : Pos}

/-! ### slices -/
abbrev PX := DEnv → Option (Option Int × DEnv)
def rdP (K : PySem.W.Frag) (S : Addr → Prop) (ev : PX) : TO := fun σ H Q => ∃ δ d δ', Sat K S δ σ H ∧ ev δ = some (d, δ') ∧ ∀ H', PostE K S δ σ H δ' H' → Q d H'
def pNo : PX := fun δ => some (none, δ)
def pSo (ev : EX) : PX := fun δ => (ev δ).bind fun p => match p.1 with
  | .int i => some (some i, p.2)
  | _ => none
theorem poI {e : Option Expr} {t t' : TO} (h : PO X e t) (i : ∀ σ H Q, t' σ H Q → t σ H Q) : PO X e t' := ⟨fun pins s σ H Q I q => h.run pins s σ H Q I (i σ H Q q)⟩
theorem pdp_none : PO X none (rdP X.K S pNo) := poI po_none fun σ H Q ⟨δ, d, δ', s, q, k⟩ => by cases q; exact k H (PostE.refl s)
theorem pdp_some {ev : EX} (h : PE X e (rd X.K S ev)) : PO X (some e) (rdP X.K S (pSo ev)) := poI (po_some h) fun σ H Q ⟨δ, d, δ', s, q, k⟩ => by
  obtain ⟨⟨x, δ1⟩, q1, q2⟩ := ob q
  cases x with
  | int i =>
    cases q2
    exact ⟨δ, _, _, s, q1, fun v H1 p1 r1 => by cases r1; exact ⟨i, rfl, k H1 p1⟩⟩
  | _ => cases q2
def cutD (xs : List D) (lo hi : Option Int) : List D := (xs.drop (HT.sIx xs.length 0 lo)).take (HT.sIx xs.length xs.length hi - HT.sIx xs.length 0 lo)
theorem rpa_cut {vs : List V} (r : RpA K H T vs ds) (lo hi : Option Int) : RpA K H T (cutV vs lo hi) (cutD ds lo hi) := by
  unfold cutV cutD
  rw [r.length]
  exact (r.drop _).take _
abbrev R3 := V → Option Int → Option Int → Hp → VK → Prop
def SlD (K : PySem.W.Frag) (r : R3) (g : D → Option Int → Option Int → Option D) : Prop := ∀ (T : Addr → Prop) (H : Hp) (x : V) (dx : D) (lo hi : Option Int) (dz : D) (Q : VK), (∀ a, T a → H a ≠ none) → Vw K H T x dx → g dx lo hi = some dz →
  (∀ z H', Ev (fun _ => False) H H' → Rp K H' T z dz → Q z H') → r x lo hi H Q
def SlO (K : PySem.W.Frag) (r : R3) (g : D → Option Int → Option Int → Option Ct) : Prop := ∀ (T : Addr → Prop) (H : Hp) (x : V) (dx : D) (lo hi : Option Int) (dz : Ct) (Q : VK), (∀ a, T a → H a ≠ none) → Vw K H T x dx → g dx lo hi = some dz →
  (∀ a u, H a = none → CRp K (upd H a u) (fun b => T b ∨ b = a) a dz → Q (.ref a) (upd H a u)) → r x lo hi H Q
def eSl (g : D → Option Int → Option Int → Option D) (a : HX) (lo hi : PX) : EX := fun δ => (a δ).bind fun p => (lo p.2).bind fun q => (hi q.2).bind fun r => (p.1.d r.2).bind fun x => (g x q.1 r.1).bind fun z => some (z, r.2)
def oSl (g : D → Option Int → Option Int → Option Ct) (a : HX) (lo hi : PX) : OX := fun δ => (a δ).bind fun p => (lo p.2).bind fun q => (hi q.2).bind fun r => (p.1.d r.2).bind fun x => (g x q.1 r.1).bind fun z => some (z, r.2)
theorem rd_sl {r : R3} {g : D → Option Int → Option Int → Option D} {ha : HX} {lo hi : PX} {Q : VK} (hd : SlD K r g) (h : rd K S (eSl g ha lo hi) σ H Q) : tSl r (rdh K S ha) (rdP K S lo) (rdP K S hi) σ H Q := by
  obtain ⟨δ, d, δe, s, q, k⟩ := h
  obtain ⟨⟨x, δ1⟩, q1, q⟩ := ob q
  obtain ⟨⟨l, δ2⟩, q2, q⟩ := ob q
  obtain ⟨⟨u, δ3⟩, q3, q⟩ := ob q
  obtain ⟨dx, q4, q⟩ := ob q
  obtain ⟨dz, q5, q⟩ := ob q
  cases q
  exact ⟨δ, x, δ1, s, q1, fun v H1 p1 r1 => ⟨δ1, l, δ2, p1.sat, q2, fun H2 p2 => ⟨δ2, u, δ3, p2.sat, q3, fun H3 p3 =>
    hd _ H3 v dx l u d Q (fun a z => p3.sat.there z) (((r1.on p2).on p3).vw p3.sat q4) q5 fun z H4 ev rz => k z H4 (((p1.trans p2).trans p3).grow ev) rz⟩⟩⟩
theorem rdO_sl {r : R3} {g : D → Option Int → Option Int → Option Ct} {ha : HX} {lo hi : PX} {Q : VK} (hd : SlO K r g) (h : rdO K S (oSl g ha lo hi) σ H Q) : tSl r (rdh K S ha) (rdP K S lo) (rdP K S hi) σ H Q := by
  obtain ⟨δ, d, δe, s, q, k⟩ := h
  obtain ⟨⟨x, δ1⟩, q1, q⟩ := ob q
  obtain ⟨⟨l, δ2⟩, q2, q⟩ := ob q
  obtain ⟨⟨u, δ3⟩, q3, q⟩ := ob q
  obtain ⟨dx, q4, q⟩ := ob q
  obtain ⟨dz, q5, q⟩ := ob q
  cases q
  exact ⟨δ, x, δ1, s, q1, fun v H1 p1 r1 => ⟨δ1, l, δ2, p1.sat, q2, fun H2 p2 => ⟨δ2, u, δ3, p2.sat, q3, fun H3 p3 =>
    hd _ H3 v dx l u d Q (fun a z => p3.sat.there z) (((r1.on p2).on p3).vw p3.sat q4) q5 fun z o hn rz => own_fin ((p1.trans p2).trans p3) hn rz k⟩⟩⟩
variable {lo hi : Option Expr} {pl ph : PX}
theorem pd_sl {r : R3} {g : D → Option Int → Option Int → Option D} {ha : HX} (hr : SlR X r) (hd : SlD X.K r g) (pa : PE X a (rdh X.K S ha)) (hl : PO X lo (rdP X.K S pl)) (hh : PO X hi (rdP X.K S ph)) : PE X (.Subscript a (.Slice lo hi none p2) pos) (rd X.K S (eSl g ha pl ph)) :=
  peI (pe_slice hr pa hl hh) fun σ H Q h => rd_sl hd h
theorem po_sl {r : R3} {g : D → Option Int → Option Int → Option Ct} {ha : HX} (hr : SlR X r) (hd : SlO X.K r g) (pa : PE X a (rdh X.K S ha)) (hl : PO X lo (rdP X.K S pl)) (hh : PO X hi (rdP X.K S ph)) : PE X (.Subscript a (.Slice lo hi none p2) pos) (rdO X.K S (oSl g ha pl ph)) :=
  peI (pe_slice hr pa hl hh) fun σ H Q h => rdO_sl hd h
def cSl (x : D) (lo hi : Option Int) : Option Ct := match x with
  | .lst xs => some (.lst (cutD xs lo hi))
  | .ro xs => some (.lst (cutD xs lo hi))
  | _ => none
theorem o_sl : SlO K (rSlL K) cSl := fun T H x dx lo hi dz Q al vx e k => by
  cases dx <;> first | cases e; done | skip
  · cases e
    obtain ⟨p, xs, rfl, mx, rx⟩ := vx.lst
    exact ⟨p, xs, rfl, .inl (.inl mx), fun l hl => k l _ hl (new_lst hl al (rpa_cut rx lo hi))⟩
  · cases e
    obtain ⟨p, xs, rfl, mx, rx⟩ := vx.ro
    exact ⟨p, xs, rfl, mx.sq, fun l hl => k l _ hl (new_lst hl al (rpa_cut rx lo hi))⟩
def gSl (x : D) (lo hi : Option Int) : Option D := match x with
  | .lst xs => some (.lst (cutD xs lo hi))
  | .ro xs => some (.lst (cutD xs lo hi))
  | .tup xs => some (.tup (cutD xs lo hi))
  | .str z => if z.length ≤ lim then some (.str (cutS z lo hi)) else none
  | _ => none
def rSlAll (K : PySem.W.Frag) : R3 := fun x lo hi H Q => rSlL K x lo hi H Q ∨ rSlA K x lo hi H Q ∨ rSlS x lo hi H Q
theorem r_sl : SlR X (rSlAll X.K) := sl_list.or (sl_tupA.or sl_str)
theorem cut_all (xs : List D) (lo hi : Option Int) (h : HT.sIx xs.length 0 lo = 0 ∧ HT.sIx xs.length xs.length hi = xs.length) : cutD xs lo hi = xs := by
  unfold cutD
  rw [h.1, h.2, List.drop_zero, Nat.sub_zero, List.take_length]
theorem d_sl : SlD K (rSlAll K) gSl := fun T H x dx lo hi dz Q al vx e k => by
  cases dx <;> first | cases e; done | skip
  · rename_i z
    have e1 : (if z.length ≤ lim then some (D.str (cutS z lo hi)) else none) = some dz := e
    split at e1
    · rename_i c; cases e1; exact .inr (.inr ⟨z, vx.str, lim_line c, k _ H Ev.refl (.str _)⟩)
    · cases e1
  · cases e
    obtain ⟨p, xs, rfl, mx, rx⟩ := vx.lst
    exact .inl ⟨p, xs, rfl, .inl (.inl mx), fun l hl => k _ _ (Ev.new hl) (CRp.rp ((new_lst hl al (rpa_cut rx lo hi)).wid fun x z => .inl (.inl z)) (fresh_not al hl))⟩
  · cases e
    obtain ⟨p, xs, rfl, mx, rx⟩ := vx.tup
    refine .inr (.inl ⟨p, xs, rfl, mx.sq, fun z => ?_, fun _ l hl => k _ _ (Ev.new hl) (new_tup hl al (rpa_cut rx lo hi))⟩)
    rw [rx.length] at z
    exact k _ H Ev.refl (by rw [cut_all _ _ _ z]; exact .tup mx rx)
  · cases e
    obtain ⟨p, xs, rfl, mx, rx⟩ := vx.ro
    exact .inl ⟨p, xs, rfl, mx.sq, fun l hl => k _ _ (Ev.new hl) (CRp.rp ((new_lst hl al (rpa_cut rx lo hi)).wid fun x z => .inl (.inl z)) (fresh_not al hl))⟩
/-- xs[::-1], a list -/
def oRev (a : HX) : OX := fun δ => (a δ).bind fun p => (p.1.d p.2).bind fun x => match x with
  | .lst xs => some (.lst xs.reverse, p.2)
  | _ => none
theorem po_rev {k : Nat} {p1 p3 : Pos} {ha : HX} (pa : PE X a (rdh X.K S ha)) : PE X (.Subscript a (.Slice none none (some (.UnaryOp .USub (.Constant (.int 1) k p1) p2)) p3) pos) (rdO X.K S (oRev ha)) :=
  peI (pe_revL pa) fun σ H Q ⟨δ, d, δe, s, q, kk⟩ => by
    obtain ⟨⟨x, δ1⟩, q1, q⟩ := ob q
    obtain ⟨dx, q2, q⟩ := ob q
    cases dx <;> cases q
    refine ⟨δ, x, _, s, q1, fun v H1 p1 r1 => ?_⟩
    obtain ⟨p, xs, rfl, mx, rx⟩ := (r1.vw p1.sat q2).lst
    exact ⟨p, xs, rfl, .inl (.inl mx), fun l hl => own_fin p1 hl (new_lst hl (fun a z => p1.sat.there z) rx.reverse) kk⟩

/-! ### displays -/
def vals : List Hd → Option (List D)
  | [] => some []
  | .val d :: r => (vals r).bind fun ds => some (d :: ds)
  | _ => none
theorem HdsOk.rp {vs : List V} {xs : List Hd} (h : HdsOk K S δ σ H vs xs) : ∀ {ds : List D}, vals xs = some ds → RpA K H (Sx S δ σ) vs ds := by
  induction h with
  | nil => intro ds e; cases e; exact .nil
  | cons h t ih =>
    rename_i x _ _
    intro ds e
    cases x with
    | nm i => cases e
    | val d =>
      obtain ⟨ds', e1, e2⟩ := ob e
      cases e2
      exact .cons h (ih e1)
def oLst (t : AX) : OX := fun δ => (t δ).bind fun p => (vals p.1).bind fun ds => if ds.length ≤ lim then some (.lst ds, p.2) else none
def eTup (t : AX) : EX := fun δ => (t δ).bind fun p => (vals p.1).bind fun ds => if ds.length ≤ lim then some (.tup ds, p.2) else none
variable {es : List Expr} {t : AX}
theorem po_lst (h : PA X es (rdA X.K S t)) : PE X (.List es pos) (rdO X.K S (oLst t)) := peI (pe_lst h) fun σ H Q ⟨δ, d, δe, s, q, k⟩ => by
  obtain ⟨⟨x, δ1⟩, q1, q⟩ := ob q
  obtain ⟨zs, q2, q⟩ := ob q
  split at q
  · rename_i c; cases q
    refine ⟨δ, x, _, s, q1, fun vs H1 p1 r1 => ?_⟩
    have rz := r1.rp q2
    exact ⟨by rw [rz.length]; exact lim_line c, fun p hp => own_fin p1 hp (new_lst hp (fun a z => p1.sat.there z) rz) k⟩
  · cases q
theorem pd_tup {x1} (h : PA X es (rdA X.K S t)) : PE X (.Tuple es x1 pos) (rd X.K S (eTup t)) := peI (pe_tup h) fun σ H Q ⟨δ, d, δe, s, q, k⟩ => by
  obtain ⟨⟨x, δ1⟩, q1, q⟩ := ob q
  obtain ⟨zs, q2, q⟩ := ob q
  split at q
  · rename_i c; cases q
    refine ⟨δ, x, _, s, q1, fun vs H1 p1 r1 => ?_⟩
    have rz := r1.rp q2
    exact ⟨by rw [rz.length]; exact lim_line c, fun p hp => k _ _ (p1.grow (Ev.new hp)) (new_tup hp (fun a z => p1.sat.there z) rz)⟩
  · cases q

/-! ### what is walked -/
abbrev IX := DEnv → Option (List D × DEnv)
structure Walks (K : PySem.W.Frag) (J : It) (src : (Addr → Prop) → Hp → Prop) (ds : List D) : Prop where
  ev : ∀ (T T' M : Addr → Prop) (H H' : Hp), src T H → Ev M H H' → (∀ x, M x → T x) → Wid H T T' → src T' H'
  go : ∀ (T : Addr → Prop) (i : Nat) (H : Hp), src T H → i < ds.length → J.go i H
  yld : ∀ (T : Addr → Prop) (i : Nat) (H : Hp) (x : V) (H' : Hp), src T H → (∀ a, T a → H a ≠ none) → J.yld i H x H' → i < ds.length → Ev (fun _ => False) H H' ∧ ∃ d, ds[i]? = some d ∧ Rp K H' T x d
  stop : ∀ (T : Addr → Prop) (i : Nat) (H : Hp), src T H → ds.length ≤ i → J.stop i H
def rdI (K : PySem.W.Frag) (S : Addr → Prop) (ei : IX) : TI := fun σ H R => ∃ δ ds δ', Sat K S δ σ H ∧ ei δ = some (ds, δ') ∧ ∀ J H' src, PostE K S δ σ H δ' H' → Walks K J src ds → src (Sx S δ' σ) H' → R J H'
theorem piI {tg : Expr} {t t' : TI} (h : PI X tg e t) (i : ∀ σ H R, t' σ H R → t σ H R) : PI X tg e t' := ⟨fun pins s σ H R I q => h.run pins s σ H R I (i σ H R q)⟩
theorem PI.or {tg : Expr} {t t' : TI} (h : PI X tg e t) (h' : PI X tg e t') : PI X tg e (fun σ H R => t σ H R ∨ t' σ H R) := ⟨fun pins s σ H R I q => q.elim (h.run pins s σ H R I) (h'.run pins s σ H R I)⟩
theorem walks_l {a : Addr} {xs : List V} : Walks K (Itl K a) (fun T H => ML K H T a xs ∧ RpA K H T xs ds) ds where
  ev := fun T T' M H H' h e m w => ⟨h.1.ev e m w, h.2.ev e m w⟩
  go := fun T i H h hi => by
    obtain ⟨d, hd⟩ : ∃ d, ds[i]? = some d := ⟨ds[i], by simp [hi]⟩
    obtain ⟨v, hv, _⟩ := h.2.get hd
    exact ⟨xs, v, h.1.sq, hv⟩
  yld := fun T i H x H' h al y hi => by
    obtain ⟨rfl, y⟩ := y
    obtain ⟨d, hd, r⟩ := h.2.getV (y xs h.1.sq)
    exact ⟨Ev.refl, d, hd, r⟩
  stop := fun T i H h hi => ⟨xs, h.1.sq, by rw [h.2.length]; exact hi⟩
theorem walks_r {a : Addr} {xs : List V} : Walks K (Itl K a) (fun T H => MR K H T a xs ∧ RpA K H T xs ds) ds where
  ev := fun T T' M H H' h e m w => ⟨h.1.ev e m w, h.2.ev e m w⟩
  go := fun T i H h hi => by
    obtain ⟨d, hd⟩ : ∃ d, ds[i]? = some d := ⟨ds[i], by simp [hi]⟩
    obtain ⟨v, hv, _⟩ := h.2.get hd
    exact ⟨xs, v, h.1.sq, hv⟩
  yld := fun T i H x H' h al y hi => by
    obtain ⟨rfl, y⟩ := y
    obtain ⟨d, hd, r⟩ := h.2.getV (y xs h.1.sq)
    exact ⟨Ev.refl, d, hd, r⟩
  stop := fun T i H h hi => ⟨xs, h.1.sq, by rw [h.2.length]; exact hi⟩
theorem walks_t {a : Addr} {xs : List V} : Walks K (Itt K a) (fun T H => MT K H T a xs ∧ RpA K H T xs ds) ds where
  ev := fun T T' M H H' h e m w => ⟨h.1.ev e m w, h.2.ev e m w⟩
  go := fun T i H h hi => by
    obtain ⟨d, hd⟩ : ∃ d, ds[i]? = some d := ⟨ds[i], by simp [hi]⟩
    obtain ⟨v, hv, _⟩ := h.2.get hd
    exact ⟨xs, v, h.1.sq, hv⟩
  yld := fun T i H x H' h al y hi => by
    obtain ⟨rfl, y⟩ := y
    obtain ⟨d, hd, r⟩ := h.2.getV (y xs h.1.sq)
    exact ⟨Ev.refl, d, hd, r⟩
  stop := fun T i H h hi => ⟨xs, h.1.sq, by rw [h.2.length]; exact hi⟩
def iSeq (ev : EX) : IX := fun δ => (ev δ).bind fun p => match p.1 with
  | .lst xs => some (xs, p.2)
  | .tup xs => some (xs, p.2)
  | .ro xs => some (xs, p.2)
  | _ => none
theorem pdi_seq {tg : Expr} {ev : EX} (h : PE X e (rd X.K S ev)) : PI X tg e (rdI X.K S (iSeq ev)) := piI (PI.or (pi_list h) (pi_tup h)) fun σ H R ⟨δ, ds, δe, s, q, k⟩ => by
  obtain ⟨⟨x, δ1⟩, q1, q⟩ := ob q
  cases x <;> cases q
  · refine .inl ⟨δ, _, _, s, q1, fun v H1 p1 r1 => ?_⟩
    cases r1 with
    | lst m r => exact ⟨_, rfl, ⟨_, m.sq⟩, k _ H1 _ p1 walks_l ⟨m, r⟩⟩
  · refine .inr ⟨δ, _, _, s, q1, fun v H1 p1 r1 => ?_⟩
    cases r1 with
    | tup m r => exact ⟨_, rfl, ⟨_, m.sq⟩, k _ H1 _ p1 walks_t ⟨m, r⟩⟩
  · refine .inl ⟨δ, _, _, s, q1, fun v H1 p1 r1 => ?_⟩
    cases r1 with
    | ro m r => exact ⟨_, rfl, ⟨_, m.sq⟩, k _ H1 _ p1 walks_r ⟨m, r⟩⟩
/-- ranges -/
def upFrom (lo : Int) : Nat → List D
  | 0 => []
  | n + 1 => .int lo :: upFrom (lo + 1) n
theorem upFrom_length : ∀ (n : Nat) (lo : Int), (upFrom lo n).length = n
  | 0, _ => rfl
  | n + 1, lo => by show (upFrom (lo + 1) n).length + 1 = _; rw [upFrom_length n]
theorem upFrom_get : ∀ (n : Nat) (lo : Int) (i : Nat), i < n → (upFrom lo n)[i]? = some (.int (lo + i))
  | n + 1, lo, 0, _ => by show some (D.int lo) = _; simp
  | n + 1, lo, i + 1, h => by
    show (upFrom (lo + 1) n)[i]? = _
    rw [upFrom_get n (lo + 1) i (by omega)]
    congr 2
    omega
theorem walks_range {lo : Int} {n : Nat} : Walks K (Itr lo n) (fun _ _ => True) (upFrom lo n) where
  ev := fun _ _ _ _ _ _ _ _ _ => trivial
  go := fun T i H h hi => by rw [upFrom_length] at hi; exact hi
  yld := fun T i H x H' h al y hi => by
    obtain ⟨rfl, rfl⟩ := y
    rw [upFrom_length] at hi
    exact ⟨Ev.refl, _, upFrom_get n lo i hi, .int _⟩
  stop := fun T i H h hi => by rw [upFrom_length] at hi; exact hi
def fit62 (i : Int) : Bool := decide (-(2 ^ 62) ≤ i) && decide (i < 2 ^ 62)
theorem fit62_of {i : Int} (h : fit62 i = true) : -(2 ^ 62) ≤ i ∧ i < 2 ^ 62 := by
  unfold fit62 at h
  rw [Bool.and_eq_true] at h
  exact ⟨of_decide_eq_true h.1, of_decide_eq_true h.2⟩
def iRange (f : List D → Option (List D)) (t : AX) : IX := fun δ => (t δ).bind fun p => (hds p.2 p.1).bind fun ds => (f ds).bind fun xs => some (xs, p.2)
def rg1 : List D → Option (List D)
  | [.int j] => if fit62 j then some (upFrom 0 j.toNat) else none
  | _ => none
def rg2 : List D → Option (List D)
  | [.int i, .int j] => if fit62 i && fit62 j then some (upFrom i (j - i).toNat) else none
  | _ => none
/-- downward, by ones -/
def downFrom (hi : Int) : Nat → List D
  | 0 => []
  | n + 1 => .int hi :: downFrom (hi - 1) n
def rg3 : List D → Option (List D)
  | [.int i, .int j, .int c] => if fit62 i && fit62 j && decide (c = -1) then some (downFrom i (i - j).toNat) else none
  | _ => none
theorem rg1_inv {ds zs : List D} (h : rg1 ds = some zs) : ∃ j, ds = [.int j] ∧ fit62 j = true ∧ zs = upFrom 0 j.toNat := by
  unfold rg1 at h
  split at h
  · split at h
    · rename_i c; cases h; exact ⟨_, rfl, c, rfl⟩
    · cases h
  · cases h
theorem rg2_inv {ds zs : List D} (h : rg2 ds = some zs) : ∃ i j, ds = [.int i, .int j] ∧ fit62 i = true ∧ fit62 j = true ∧ zs = upFrom i (j - i).toNat := by
  unfold rg2 at h
  split at h
  · split at h
    · rename_i c; cases h; rw [Bool.and_eq_true] at c; exact ⟨_, _, rfl, c.1, c.2, rfl⟩
    · cases h
  · cases h
theorem rg3_inv {ds zs : List D} (h : rg3 ds = some zs) : ∃ i j, ds = [.int i, .int j, .int (-1)] ∧ fit62 i = true ∧ fit62 j = true ∧ zs = downFrom i (i - j).toNat := by
  unfold rg3 at h
  split at h
  · split at h
    · rename_i c; cases h
      rw [Bool.and_eq_true, Bool.and_eq_true] at c
      have e := of_decide_eq_true c.2
      subst e
      exact ⟨_, _, rfl, c.1.1, c.1.2, rfl⟩
    · cases h
  · cases h
theorem downFrom_length : ∀ (n : Nat) (lo : Int), (downFrom lo n).length = n
  | 0, _ => rfl
  | n + 1, lo => by show (downFrom (lo - 1) n).length + 1 = _; rw [downFrom_length n]
theorem downFrom_get : ∀ (n : Nat) (lo : Int) (i : Nat), i < n → (downFrom lo n)[i]? = some (.int (lo + (i : Int) * (-1)))
  | n + 1, lo, 0, _ => by show some (D.int lo) = _; simp
  | n + 1, lo, i + 1, h => by
    show (downFrom (lo - 1) n)[i]? = _
    rw [downFrom_get n (lo - 1) i (by omega)]
    congr 2
    omega
theorem walks_down {lo : Int} {n : Nat} : Walks K (Itc lo (-1) n) (fun _ _ => True) (downFrom lo n) where
  ev := fun _ _ _ _ _ _ _ _ _ => trivial
  go := fun T i H h hi => by rw [downFrom_length] at hi; exact hi
  yld := fun T i H x H' h al y hi => by
    obtain ⟨rfl, rfl⟩ := y
    rw [downFrom_length] at hi
    exact ⟨Ev.refl, _, downFrom_get n lo i hi, .int _⟩
  stop := fun T i H h hi => by rw [downFrom_length] at hi; exact hi
theorem vwa3 {vs : List V} {d2 d3 : D} (h : VwA K H T vs [d, d2, d3]) : ∃ v w u, vs = [v, w, u] ∧ Vw K H T v d ∧ Vw K H T w d2 ∧ Vw K H T u d3 := by
  cases h with
  | cons a b =>
    obtain ⟨w, u, rfl, c⟩ := vwa2 b
    exact ⟨_, w, u, rfl, a, c⟩
theorem pdi_range1 {tg : Expr} {p pos : Pos} {t : AX} (hg : Gl X "range") (hm : X.mg "range" = none) (ha : PA X [a] (rdA X.K S t)) (hs : starEach [a] X.env = [(false, eval a X.env)] := by rfl) : PI X tg (.Call (.Name "range" p) [a] [] pos) (rdI X.K S (iRange rg1 t)) :=
  piI (pi_range1 hg hm ha hs) fun σ H R ⟨δ, ds, δe, s, q, k⟩ => by
    obtain ⟨⟨x, δ1⟩, q1, q⟩ := ob q
    obtain ⟨zs, q2, q⟩ := ob q
    obtain ⟨ws, q3, q⟩ := ob q
    cases q
    refine ⟨δ, x, δ1, s, q1, fun vs H1 p1 r1 => ?_⟩
    have hv := r1.vw p1.sat q2
    obtain ⟨j, rfl, c, rfl⟩ := rg1_inv q3
    obtain ⟨v, rfl, h1⟩ := vwa1 hv
    obtain ⟨c1, c2⟩ := fit62_of c
    exact ⟨j, by rw [h1.int], c1, c2, k _ H1 _ p1 walks_range trivial⟩
theorem pdi_range2 {tg : Expr} {p pos : Pos} {t : AX} (hg : Gl X "range") (hm : X.mg "range" = none) (ha : PA X [a, b] (rdA X.K S t)) (hs : starEach [a, b] X.env = [(false, eval a X.env), (false, eval b X.env)] := by rfl) (hs2 : starEach [b] X.env = [(false, eval b X.env)] := by rfl) :
    PI X tg (.Call (.Name "range" p) [a, b] [] pos) (rdI X.K S (iRange rg2 t)) :=
  piI (pi_range2 hg hm ha hs hs2) fun σ H R ⟨δ, ds, δe, s, q, k⟩ => by
    obtain ⟨⟨x, δ1⟩, q1, q⟩ := ob q
    obtain ⟨zs, q2, q⟩ := ob q
    obtain ⟨ws, q3, q⟩ := ob q
    cases q
    refine ⟨δ, x, δ1, s, q1, fun vs H1 p1 r1 => ?_⟩
    have hv := r1.vw p1.sat q2
    obtain ⟨i, j, rfl, c, c', rfl⟩ := rg2_inv q3
    obtain ⟨v, w, rfl, h1, h2⟩ := vwa2 hv
    obtain ⟨c1, c2⟩ := fit62_of c
    obtain ⟨c3, c4⟩ := fit62_of c'
    exact ⟨i, j, by rw [h1.int, h2.int], ⟨c1, c2, c3, c4⟩, k _ H1 _ p1 walks_range trivial⟩
theorem pdi_range3 {tg : Expr} {p pos : Pos} {t : AX} (hg : Gl X "range") (hm : X.mg "range" = none) (ha : PA X [a, b, c] (rdA X.K S t)) (hs : starEach [a, b, c] X.env = (false, eval a X.env) :: starEach [b, c] X.env := by rfl)
    (hpl : (backTo pos (starEach [b, c] X.env)).any (·.1) = false := by rfl) :
    PI X tg (.Call (.Name "range" p) [a, b, c] [] pos) (rdI X.K S (iRange rg3 t)) :=
  piI (pi_range3 hg hm ha hs hpl) fun σ H R ⟨δ, ds, δe, s, q, k⟩ => by
    obtain ⟨⟨x, δ1⟩, q1, q⟩ := ob q
    obtain ⟨zs, q2, q⟩ := ob q
    obtain ⟨ws, q3, q⟩ := ob q
    cases q
    refine ⟨δ, x, δ1, s, q1, fun vs H1 p1 r1 => ?_⟩
    have hv := r1.vw p1.sat q2
    obtain ⟨i, j, rfl, c, c', rfl⟩ := rg3_inv q3
    obtain ⟨v, w, u, rfl, h1, h2, h3⟩ := vwa3 hv
    obtain ⟨c1, c2⟩ := fit62_of c
    obtain ⟨c3, c4⟩ := fit62_of c'
    exact ⟨i, j, -1, (i - j).toNat, by rw [h1.int, h2.int, h3.int], RgC.neg c1 c2 c3 c4, k _ H1 _ p1 walks_down trivial⟩
end
end DL

/-! DLg: statements by data: targets, stores, blocks, tests, loops. -/
namespace DL
open PySem PySem.Spec PyProof.Rows L2

inductive Fl where
  | nx (δ : DEnv) | bk (δ : DEnv) | ct (δ : DEnv) | rt (r : Sl) (δ : DEnv)
abbrev SX := DEnv → Option Fl

section
variable {K : PySem.W.Frag} {S T : Addr → Prop} {δ δ1 δ2 δ' : DEnv} {σ σ1 σ2 σ' : L2.St} {H H1 H2 H' : Hp} {v w : V} {d : D} {ds : List D} {DD : Ends} {f : Fl}
variable {X : Cx} {e a b c : Expr} {pos p2 : Pos}

structure PostS (K : PySem.W.Frag) (S : Addr → Prop) (δ : DEnv) (σ : L2.St) (H : Hp) (δ' : DEnv) (σ' : L2.St) (H' : Hp) : Prop where
  sat : Sat K S δ' σ' H'
  ev : Ev (OwnAt δ σ) H H'
  new : ∀ a, OwnAt δ' σ' a → OwnAt δ σ a ∨ H a = none
  bor : ∀ (i : Nat) (c : Ct), δ[i]? = some (some (.b c)) → ∃ c', δ'[i]? = some (some (.b c')) ∧ σ'[i]? = σ[i]?
  al : ∀ a, H a ≠ none → H' a ≠ none
theorem PostS.refl (s : Sat K S δ σ H) : PostS K S δ σ H δ σ H := ⟨s, Ev.refl, fun _ h => .inl h, fun _ c h => ⟨c, h, rfl⟩, fun _ h => h⟩
theorem PostS.trans (a : PostS K S δ σ H δ1 σ1 H1) (b : PostS K S δ1 σ1 H1 δ2 σ2 H2) : PostS K S δ σ H δ2 σ2 H2 where
  sat := b.sat
  ev := a.ev.trans b.ev fun x h => a.new x h
  new := fun x h => (b.new x h).elim (fun z => a.new x z) fun z => .inr (by
    cases q : H x with
    | none => rfl
    | some o => exact absurd z (a.al x (by rw [q]; exact fun z => nomatch z)))
  bor := fun i c h => by
    obtain ⟨c1, e1, e2⟩ := a.bor i c h
    obtain ⟨c2, e3, e4⟩ := b.bor i c1 e1
    exact ⟨c2, e3, e4.trans e2⟩
  al := fun x h => b.al x (a.al x h)
theorem PostS.ofE (a : PostE K S δ σ H δ' H') : PostS K S δ σ H δ' σ H' := ⟨a.sat, a.ev, fun _ h => .inl (own_sub a.sub h), fun i c h => let ⟨c', e⟩ := a.bor i c h; ⟨c', e, rfl⟩, a.al⟩
theorem PostS.grow (a : PostS K S δ σ H δ1 σ1 H1) (e : Ev (fun _ => False) H1 H2) : PostS K S δ σ H δ1 σ1 H2 :=
  ⟨a.sat.grow e, a.ev.trans e fun _ z => z.elim, a.new, a.bor, fun x h => ev_al e x (a.al x h)⟩
theorem PostS.wid (a : PostS K S δ σ H δ1 σ1 H1) : Wid H (Sx S δ σ) (Sx S δ1 σ1) := fun x h => h.elim (fun z => .inl (.inl z)) fun z => (a.new x z).elim (fun z => .inl (.inr z)) .inr
theorem PostS.rp (a : PostS K S δ σ H δ1 σ1 H1) (r : Rp K H (Sx S δ σ) v d) : Rp K H1 (Sx S δ1 σ1) v d := r.ev a.ev (fun _ h => .inr h) a.wid
theorem PostS.rpA {vs : List V} (a : PostS K S δ σ H δ1 σ1 H1) (r : RpA K H (Sx S δ σ) vs ds) : RpA K H1 (Sx S δ1 σ1) vs ds := r.ev a.ev (fun _ h => .inr h) a.wid
theorem none_back (al : ∀ a, H a ≠ none → H' a ≠ none) {x : Addr} (h : H' x = none) : H x = none := by
  cases q : H x with
  | none => rfl
  | some o => exact absurd h (al x (by rw [q]; exact fun z => nomatch z))

def rtS (K : PySem.W.Frag) (S : Addr → Prop) (δ : DEnv) (σ : L2.St) (H : Hp) (Q : VK) (δ' : DEnv) : Sl → Prop
  | .p d => ∀ v σ' H', PostS K S δ σ H δ' σ' H' → Rp K H' (Sx S δ' σ') v d → Q v H'
  | .o c => ∀ a σ' H', PostS K S δ σ H δ' σ' H' → H a = none → Sat K (fun b => S b ∨ b = a) δ' σ' H' → CRp K H' (Sx (fun b => S b ∨ b = a) δ' σ') a c → Q (.ref a) H'
  | .b _ => False
def endS (K : PySem.W.Frag) (S : Addr → Prop) (δ : DEnv) (σ : L2.St) (H : Hp) (DD : Ends) : Fl → Prop
  | .nx δ' => ∀ σ' H', PostS K S δ σ H δ' σ' H' → DD.nx σ' H'
  | .bk δ' => ∀ σ' H', PostS K S δ σ H δ' σ' H' → DD.bk σ' H'
  | .ct δ' => ∀ σ' H', PostS K S δ σ H δ' σ' H' → DD.ct σ' H'
  | .rt r δ' => rtS K S δ σ H DD.rt δ' r
theorem rtS.on {Q : VK} {r : Sl} (p : PostS K S δ σ H δ1 σ1 H1) (h : rtS K S δ σ H Q δ' r) : rtS K S δ1 σ1 H1 Q δ' r := by
  cases r with
  | p d => exact fun v σ' H' q => h v σ' H' (p.trans q)
  | o c => exact fun a σ' H' q n => h a σ' H' (p.trans q) (none_back p.al n)
  | b c => exact h
theorem endS.on (p : PostS K S δ σ H δ1 σ1 H1) (h : endS K S δ σ H DD f) : endS K S δ1 σ1 H1 DD f := by
  cases f with
  | nx δ' => exact fun σ' H' q => h σ' H' (p.trans q)
  | bk δ' => exact fun σ' H' q => h σ' H' (p.trans q)
  | ct δ' => exact fun σ' H' q => h σ' H' (p.trans q)
  | rt r δ' => exact rtS.on p h
def rdS (K : PySem.W.Frag) (S : Addr → Prop) (sx : SX) : TS := fun DD σ H => ∃ δ f, Sat K S δ σ H ∧ sx δ = some f ∧ endS K S δ σ H DD f

/-! ### blocks -/
def sNext : SX := fun δ => some (.nx δ)
def sSeq (a b : SX) : SX := fun δ => (a δ).bind fun f => match f with
  | .nx δ' => b δ'
  | f => some f
theorem pssd_nil : PSs X [] (rdS X.K S sNext) := pssI pss_nil fun DD σ H ⟨δ, f, s, q, k⟩ => by cases q; exact k σ H (PostS.refl s)
theorem pssd_one {st : Stmt} {sx : SX} (h : PS X st (rdS X.K S sx)) : PSs X [st] (rdS X.K S sx) := pss_one h
theorem pssd_cons {st : Stmt} {rest : List Stmt} {sa sb : SX} (h : PS X st (rdS X.K S sa)) (h2 : PSs X rest (rdS X.K S sb)) : PSs X (st :: rest) (rdS X.K S (sSeq sa sb)) :=
  pssI (pss_cons h h2) fun DD σ H ⟨δ, f, s, q, k⟩ => by
    obtain ⟨f1, q1, q2⟩ := ob q
    refine ⟨δ, f1, s, q1, ?_⟩
    cases f1 with
    | nx δ1 => exact fun σ1 H1 p1 => ⟨δ1, f, p1.sat, q2, k.on p1⟩
    | bk δ1 => cases q2; exact k
    | ct δ1 => cases q2; exact k
    | rt r δ1 => cases q2; exact k
def sNever : SX := fun _ => none
theorem psd_never {st : Stmt} : PS X st (rdS X.K S sNever) := psI ps_never fun DD σ H ⟨δ, f, s, q, k⟩ => by cases q
theorem pssd_never {st : List Stmt} : PSs X st (rdS X.K S sNever) := pssI pss_never fun DD σ H ⟨δ, f, s, q, k⟩ => by cases q
theorem psd_pass : PS X (.Pass pos) (rdS X.K S sNext) := psI ps_pass fun DD σ H ⟨δ, f, s, q, k⟩ => by cases q; exact k σ H (PostS.refl s)
def sBreak : SX := fun δ => some (.bk δ)
def sCont : SX := fun δ => some (.ct δ)
theorem psd_break : PS X (.Break pos) (rdS X.K S sBreak) := psI ps_break fun DD σ H ⟨δ, f, s, q, k⟩ => by cases q; exact k σ H (PostS.refl s)
theorem psd_cont : PS X (.Continue pos) (rdS X.K S sCont) := psI ps_continue fun DD σ H ⟨δ, f, s, q, k⟩ => by cases q; exact k σ H (PostS.refl s)
def sDrop (ev : EX) : SX := fun δ => (ev δ).bind fun p => some (.nx p.2)
theorem psd_expr {ev : EX} (h : PE X e (rd X.K S ev)) (hs : swapsWith e none pos.line X.env = pure false := by rfl) : PS X (.Expr e pos) (rdS X.K S (sDrop ev)) :=
  psI (ps_expr h hs) fun DD σ H ⟨δ, f, s, q, k⟩ => by
    obtain ⟨⟨d, δ1⟩, q1, q2⟩ := ob q
    cases q2
    exact ⟨δ, d, δ1, s, q1, fun v H1 p1 r1 => k σ H1 (PostS.ofE p1)⟩
def sRet (ev : EX) : SX := fun δ => (ev δ).bind fun p => some (.rt (.p p.1) p.2)
theorem psd_ret {ev : EX} (h : PE X e (rd X.K S ev)) : PS X (.Return (some e) pos) (rdS X.K S (sRet ev)) :=
  psI (ps_ret h) fun DD σ H ⟨δ, f, s, q, k⟩ => by
    obtain ⟨⟨d, δ1⟩, q1, q2⟩ := ob q
    cases q2
    exact ⟨δ, d, δ1, s, q1, fun v H1 p1 r1 => k v σ H1 (PostS.ofE p1) r1⟩
def sRetO (ox : OX) : SX := fun δ => (ox δ).bind fun p => some (.rt (.o p.1) p.2)
theorem psd_retO {ox : OX} (h : PE X e (rdO X.K S ox)) : PS X (.Return (some e) pos) (rdS X.K S (sRetO ox)) :=
  psI (ps_ret h) fun DD σ H ⟨δ, f, s, q, k⟩ => by
    obtain ⟨⟨d, δ1⟩, q1, q2⟩ := ob q
    cases q2
    exact ⟨δ, d, δ1, s, q1, fun a H1 hn p1 s1 r1 => k a σ H1 (PostS.ofE p1) hn s1 r1⟩
def sRetN : SX := fun δ => some (.rt (.p .non) δ)
theorem psd_retN : PS X (.Return none pos) (rdS X.K S sRetN) := psI ps_retN fun DD σ H ⟨δ, f, s, q, k⟩ => by cases q; exact k _ σ H (PostS.refl s) .non
def sIf (bx : BX) (a b : SX) : SX := fun δ => (bx δ).bind fun p => match p.1 with
  | true => a p.2
  | false => b p.2
theorem psd_if {bx : BX} {p q : List Stmt} {sa sb : SX} (hc : PT X c (rdT X.K S bx)) (ha : PSs X p (rdS X.K S sa)) (hb : PSs X q (rdS X.K S sb)) : PS X (.If c p q pos) (rdS X.K S (sIf bx sa sb)) :=
  psI (ps_if hc ha hb) fun DD σ H ⟨δ, f, s, q, k⟩ => by
    obtain ⟨⟨x, δ1⟩, q1, q2⟩ := ob q
    refine ⟨δ, x, δ1, s, q1, fun H1 p1 => ?_⟩
    cases x with
    | true => exact ⟨δ1, f, p1.sat, q2, k.on (PostS.ofE p1)⟩
    | false => exact ⟨δ1, f, p1.sat, q2, k.on (PostS.ofE p1)⟩

/-! ### stores -/
def isBor (δ : DEnv) (i : Nat) : Bool := match δ[i]? with
  | some (some (.b _)) => true
  | _ => false
theorem notBor {i : Nat} (h : isBor δ i = false) (c : Ct) : δ[i]? ≠ some (some (.b c)) := fun z => by unfold isBor at h; rw [z] at h; cases h
theorem set_get {α : Type} {l : List α} {i j : Nat} {x y : α} (h : (l.set i x)[j]? = some y) : (i = j ∧ x = y) ∨ (i ≠ j ∧ l[j]? = some y) := by
  by_cases z : i = j
  · subst z
    rcases Nat.lt_or_ge i l.length with lt | ge
    · rw [List.getElem?_set_self lt] at h; cases h; exact .inl ⟨rfl, rfl⟩
    · rw [List.getElem?_eq_none (by simpa using ge)] at h; cases h
  · rw [List.getElem?_set_ne z] at h; exact .inr ⟨z, h⟩
theorem set_same {α β : Type} {l : List α} {m : List β} {i : Nat} {x y : α} {z : β} (hl : l.length = m.length) (h : (l.set i x)[i]? = some y) : (m.set i z)[i]? = some z := by
  have : i < l.length := by
    rcases Nat.lt_or_ge i l.length with lt | ge
    · exact lt
    · rw [List.getElem?_eq_none (by simpa using ge)] at h; cases h
  exact List.getElem?_set_self (by omega)
theorem own_setP {i : Nat} {x : Addr} (h : OwnAt (δ.set i (some (.p d))) (σ.set i (some v)) x) : OwnAt δ σ x := by
  obtain ⟨j, ⟨sl, e, o⟩, q⟩ := h
  rcases set_get e with ⟨rfl, e1⟩ | ⟨n, e1⟩
  · cases e1; cases o
  · rw [List.getElem?_set_ne n] at q
    exact ⟨j, ⟨sl, e1, o⟩, q⟩
theorem own_setO {i : Nat} {x p : Addr} {c : Ct} (h : OwnAt (δ.set i (some (.o c))) (σ.set i (some (.ref p))) x) : x = p ∨ OwnAt δ σ x := by
  obtain ⟨j, ⟨sl, e, o⟩, q⟩ := h
  rcases set_get q with ⟨rfl, q1⟩ | ⟨n, q1⟩
  · cases q1; exact .inl rfl
  · rw [List.getElem?_set_ne n] at e
    exact .inr ⟨j, ⟨sl, e, o⟩, q1⟩
theorem Sat.setP (s : Sat K S δ σ H) {i : Nat} (r : Rp K H (Sx S δ σ) v d) : Sat K S (δ.set i (some (.p d))) (σ.set i (some v)) H := by
  have w : Wid H (Sx S δ σ) (Sx S (δ.set i (some (.p d))) (σ.set i (some v))) := fun x h => .inl (h.elim .inl fun z => .inr (own_setP z))
  refine ⟨by rw [List.length_set, List.length_set]; exact s.len, s.alloc, fun j z e => ?_, fun j z e => ?_, fun j z a e q => ?_, fun j l a o o' q q' => ?_⟩
  · rcases set_get e with ⟨rfl, e'⟩ | ⟨n, e'⟩
    · cases e'
      exact ⟨v, set_same s.len e, r.wid w⟩
    · obtain ⟨u, q, r'⟩ := s.pure j z e'
      exact ⟨u, by rw [List.getElem?_set_ne n]; exact q, r'.wid w⟩
  · have key : i ≠ j ∧ (δ[j]? = some (some (.o z)) ∨ δ[j]? = some (some (.b z))) := by
      rcases e with e | e <;> rcases set_get e with ⟨rfl, e'⟩ | ⟨n, e'⟩
      · cases e'
      · exact ⟨n, .inl e'⟩
      · cases e'
      · exact ⟨n, .inr e'⟩
    obtain ⟨a, q, r'⟩ := s.own j z key.2
    exact ⟨a, by rw [List.getElem?_set_ne key.1]; exact q, r'.wid w⟩
  · rcases set_get e with ⟨rfl, e'⟩ | ⟨n, e'⟩
    · cases e'
    · rw [List.getElem?_set_ne n] at q
      exact s.off j z a e' q
  · obtain ⟨sl, e, ow⟩ := o
    obtain ⟨sl', e', ow'⟩ := o'
    rcases set_get e with ⟨rfl, e1⟩ | ⟨n, e1⟩
    · cases e1; cases ow
    · rcases set_get e' with ⟨rfl, e2⟩ | ⟨n', e2⟩
      · cases e2; cases ow'
      · rw [List.getElem?_set_ne n] at q
        rw [List.getElem?_set_ne n'] at q'
        exact s.sep j l a ⟨sl, e1, ow⟩ ⟨sl', e2, ow'⟩ q q'
/-- S' holds p, S is S' without p -/
theorem Sat.setO {S' : Addr → Prop} (s : Sat K S' δ σ H) {i : Nat} {p : Addr} {c : Ct} (r : CRp K H (Sx S' δ σ) p c) (hp : S' p) (hs2 : ∀ x, S x → S' x) (np : ¬ S p) (no : ¬ OwnAt δ σ p) : Sat K S (δ.set i (some (.o c))) (σ.set i (some (.ref p))) H := by
  have mem : ∀ x, OwnAt (δ.set i (some (.o c))) (σ.set i (some (.ref p))) x → x = p ∨ OwnAt δ σ x := fun x h => own_setO h
  have key : ∀ {j z}, (δ.set i (some (.o c)))[j]? = some (some z) → z = .o c ∧ i = j ∨ i ≠ j ∧ δ[j]? = some (some z) := fun {j z} e => by
    rcases set_get e with ⟨rfl, e'⟩ | ⟨n, e'⟩
    · cases e'; exact .inl ⟨rfl, rfl⟩
    · exact .inr ⟨n, e'⟩
  have w : Wid H (Sx S' δ σ) (Sx S (δ.set i (some (.o c))) (σ.set i (some (.ref p)))) := fun x h => .inl (h.elim (fun z => .inl (hs2 x z)) fun z => (mem x z).elim (fun z => .inl (z ▸ hp)) .inr)
  refine ⟨by rw [List.length_set, List.length_set]; exact s.len, fun a h => s.alloc a (hs2 a h), fun j z e => ?_, fun j z e => ?_, fun j z a e q => ?_, fun j l a o o' q q' => ?_⟩
  · rcases key e with ⟨h, _⟩ | ⟨n, e'⟩
    · cases h
    · obtain ⟨u, q, r'⟩ := s.pure j z e'
      exact ⟨u, by rw [List.getElem?_set_ne n]; exact q, r'.wid w⟩
  · have k2 : (z = c ∧ i = j) ∨ (i ≠ j ∧ (δ[j]? = some (some (.o z)) ∨ δ[j]? = some (some (.b z)))) := by
      rcases e with e | e <;> rcases key e with ⟨h, h2⟩ | ⟨n, e'⟩
      · cases h; exact .inl ⟨rfl, h2⟩
      · exact .inr ⟨n, .inl e'⟩
      · cases h
      · exact .inr ⟨n, .inr e'⟩
    rcases k2 with ⟨rfl, rfl⟩ | ⟨n, h⟩
    · refine ⟨p, ?_, r.wid w⟩
      rcases e with e | e
      · exact set_same s.len e
      · exact set_same s.len e
    · obtain ⟨a, q, r'⟩ := s.own j z h
      exact ⟨a, by rw [List.getElem?_set_ne n]; exact q, r'.wid w⟩
  · rcases key e with ⟨h, rfl⟩ | ⟨n, e'⟩
    · rcases set_get q with ⟨_, q'⟩ | ⟨n, _⟩
      · cases q'; exact np
      · exact absurd rfl n
    · rw [List.getElem?_set_ne n] at q
      exact fun z => s.off j _ a e' q (hs2 a z)
  · obtain ⟨sl, e, ow⟩ := o
    obtain ⟨sl', e', ow'⟩ := o'
    rcases set_get q with ⟨rfl, q1⟩ | ⟨n, q1⟩
    · cases q1
      rcases set_get q' with ⟨rfl, q2⟩ | ⟨n', q2⟩
      · rfl
      · rw [List.getElem?_set_ne n'] at e'
        exact absurd ⟨l, ⟨sl', e', ow'⟩, q2⟩ no
    · rcases set_get q' with ⟨rfl, q2⟩ | ⟨n', q2⟩
      · cases q2
        rw [List.getElem?_set_ne n] at e
        exact absurd ⟨j, ⟨sl, e, ow⟩, q1⟩ no
      · rw [List.getElem?_set_ne n] at e
        rw [List.getElem?_set_ne n'] at e'
        exact s.sep j l a ⟨sl, e, ow⟩ ⟨sl', e', ow'⟩ q1 q2

/-- name = a value -/
def sSet (i : Nat) (ev : EX) : SX := fun δ => (ev δ).bind fun p => if isBor δ i || isBor p.2 i then none else some (.nx (p.2.set i (some (.p p.1))))
def sSetO (i : Nat) (ox : OX) : SX := fun δ => (ox δ).bind fun p => if isBor δ i || isBor p.2 i then none else some (.nx (p.2.set i (some (.o p.1))))
theorem nb2 {a b : Bool} {α : Type} {x : Option α} {y : α} (h : (if a || b then none else x) = some y) : a = false ∧ b = false ∧ x = some y := by
  cases a <;> cases b <;> simp at h <;> exact ⟨rfl, rfl, h⟩
theorem bor_set {i : Nat} {s : Option Sl} {x : Option V} (h : isBor δ i = false) (hb : ∀ (j : Nat) (c : Ct), δ[j]? = some (some (.b c)) → ∃ c', δ1[j]? = some (some (.b c'))) (j : Nat) (c : Ct) (e : δ[j]? = some (some (.b c))) :
    ∃ c', (δ1.set i s)[j]? = some (some (.b c')) ∧ (σ.set i x)[j]? = σ[j]? := by
  have n : i ≠ j := fun z => by subst z; exact notBor h c e
  obtain ⟨c', e'⟩ := hb j c e
  exact ⟨c', by rw [List.getElem?_set_ne n]; exact e', List.getElem?_set_ne n⟩
theorem post_setP {i : Nat} (p : PostE K S δ σ H δ1 H1) (h : isBor δ i = false) (r : Rp K H1 (Sx S δ1 σ) v d) : PostS K S δ σ H (δ1.set i (some (.p d))) (σ.set i (some v)) H1 :=
  ⟨p.sat.setP r, p.ev, fun a z => .inl (own_sub p.sub (own_setP z)), bor_set h p.bor, p.al⟩
theorem post_setO {i : Nat} {a : Addr} {c : Ct} (p : PostE K S δ σ H δ1 H1) (h : isBor δ i = false) (hn : H a = none) (s : Sat K (fun b => S b ∨ b = a) δ1 σ H1) (r : CRp K H1 (Sx (fun b => S b ∨ b = a) δ1 σ) a c) (al : ∀ x, S x → H x ≠ none) (ow : ∀ x, OwnAt δ σ x → H x ≠ none) :
    PostS K S δ σ H (δ1.set i (some (.o c))) (σ.set i (some (.ref a))) H1 :=
  ⟨s.setO r (.inr rfl) (fun x z => .inl z) (fun z => al a z hn) (fun z => ow a (own_sub p.sub z) hn), p.ev, fun x z => (own_setO z).elim (fun e => .inr (by rw [e]; exact hn)) fun z => .inl (own_sub p.sub z), bor_set h p.bor, p.al⟩
theorem rdS_set {i : Nat} {ev : EX} (h : rdS K S (sSet i ev) DD σ H) : rd K S ev σ H fun x H1 => gName i x σ H1 DD.nx := by
  obtain ⟨δ, f, s, q, k⟩ := h
  obtain ⟨⟨d, δ1⟩, q1, q2⟩ := ob q
  obtain ⟨b1, b2, q3⟩ := nb2 q2
  cases q3
  exact ⟨δ, d, δ1, s, q1, fun v H1 p1 r1 => k _ H1 (post_setP p1 b1 r1)⟩
theorem rdS_setO {i : Nat} {ox : OX} (h : rdS K S (sSetO i ox) DD σ H) : rdO K S ox σ H fun x H1 => gName i x σ H1 DD.nx := by
  obtain ⟨δ, f, s, q, k⟩ := h
  obtain ⟨⟨d, δ1⟩, q1, q2⟩ := ob q
  obtain ⟨b1, b2, q3⟩ := nb2 q2
  cases q3
  exact ⟨δ, d, δ1, s, q1, fun a H1 hn p1 s1 r1 => k _ H1 (post_setO p1 b1 hn s1 r1 s.alloc fun x z => s.ownThere z)⟩
variable {i j l : Nat} {x y z : Str} {px py pz : Pos}
theorem psd_set {ev : EX} (hN : X.N.Nodup) (hi : X.N[i]? = some x) (hx : Loc X.env.scope x) (he : PE X e (rd X.K S ev)) (hs : swapsWith e (some (.Name x px)) pos.line X.env = pure false := by rfl) (hf : X.fn x = true ∨ X.env.scope.names.lookup x = some .local := by first | exact .inl rfl | exact .inr rfl | assumption) :
    PS X (.Assign [.Name x px] e pos) (rdS X.K S (sSet i ev)) := psI (ps_set hN hi hx he hs hf) fun DD σ H h => rdS_set h
theorem psd_setO {ox : OX} (hN : X.N.Nodup) (hi : X.N[i]? = some x) (hx : Loc X.env.scope x) (he : PE X e (rdO X.K S ox)) (hs : swapsWith e (some (.Name x px)) pos.line X.env = pure false := by rfl) (hf : X.fn x = true ∨ X.env.scope.names.lookup x = some .local := by first | exact .inl rfl | exact .inr rfl | assumption) :
    PS X (.Assign [.Name x px] e pos) (rdS X.K S (sSetO i ox)) := psI (ps_set hN hi hx he hs hf) fun DD σ H h => rdS_setO h

/-! ### rows of values and own objects -/
abbrev MX := DEnv → Option (List Sl × DEnv)
inductive MOk (K : PySem.W.Frag) (H : Hp) (T : Addr → Prop) : List V → List Sl → List Addr → Prop
  | nil : MOk K H T [] [] []
  | p {v : V} {d : D} {vs : List V} {xs : List Sl} {as : List Addr} : Rp K H T v d → MOk K H T vs xs as → MOk K H T (v :: vs) (.p d :: xs) as
  | o {a : Addr} {c : Ct} {vs : List V} {xs : List Sl} {as : List Addr} : CRp K H T a c → MOk K H T vs xs as → MOk K H T (.ref a :: vs) (.o c :: xs) (a :: as)
theorem MOk.wid {T' : Addr → Prop} {vs : List V} {xs : List Sl} {as : List Addr} (w : Wid H T T') (h : MOk K H T vs xs as) : MOk K H T' vs xs as := by
  induction h with
  | nil => exact .nil
  | p r _ ih => exact .p (r.wid w) ih
  | o r _ ih => exact .o (r.wid w) ih
theorem MOk.length {vs : List V} {xs : List Sl} {as : List Addr} (h : MOk K H T vs xs as) : vs.length = xs.length := by
  induction h with
  | nil => rfl
  | p _ _ ih => simp [ih]
  | o _ _ ih => simp [ih]
def rdM (K : PySem.W.Frag) (S : Addr → Prop) (mx : MX) : TA := fun σ H Q => ∃ δ xs δ', Sat K S δ σ H ∧ mx δ = some (xs, δ') ∧
  ∀ vs as H', PostE K S δ σ H δ' H' → Sat K (fun b => S b ∨ b ∈ as) δ' σ H' → as.Nodup → (∀ a ∈ as, H a = none) → MOk K H' (Sx (fun b => S b ∨ b ∈ as) δ' σ) vs xs as → Q vs H'
def mNil : MX := fun δ => some ([], δ)
def mP (ev : EX) (t : MX) : MX := fun δ => (ev δ).bind fun p => (t p.2).bind fun q => some (.p p.1 :: q.1, q.2)
def mO (ox : OX) (t : MX) : MX := fun δ => (ox δ).bind fun p => (t p.2).bind fun q => some (.o p.1 :: q.1, q.2)
variable {es : List Expr}
theorem pdm_nil : PA X [] (rdM X.K S mNil) := paI pa_nil fun σ H Q ⟨δ, z, δ', s, q, k⟩ => by
  cases q
  exact k [] [] H (PostE.refl s) (s.less fun a h => h.elim id fun z => absurd z (by simp)) .nil (fun a z => absurd z (by simp)) .nil
theorem pdm_p {ev : EX} {t : MX} (he : PE X e (rd X.K S ev)) (ht : PA X es (rdM X.K S t)) (hs : starEach (e :: es) X.env = (false, eval e X.env) :: starEach es X.env := by rfl) : PA X (e :: es) (rdM X.K S (mP ev t)) :=
  paI (pa_cons he ht hs) fun σ H Q ⟨δ, z, δ', s, q, k⟩ => by
    obtain ⟨⟨d, δ1⟩, q1, q2⟩ := ob q
    obtain ⟨⟨xs, δ2⟩, q3, q4⟩ := ob q2
    cases q4
    refine ⟨δ, d, δ1, s, q1, fun v H1 p1 r1 => ⟨δ1, xs, δ2, p1.sat, q3, fun vs as H2 p2 s2 nd fr m => ?_⟩⟩
    refine k (v :: vs) as H2 (p1.trans p2) s2 nd (fun a h => none_back p1.al (fr a h)) (.p (r1.ev p2.ev (fun _ h => .inr h) fun x h => ?_) m)
    rcases h with (h | h) | h
    · exact .inl (.inl h)
    · exact .inr (fr x h)
    · exact .inl (.inr (own_sub p2.sub h))
theorem PostE.less {S' : Addr → Prop} (p : PostE K S' δ σ H δ' H') (h : ∀ a, S a → S' a) : PostE K S δ σ H δ' H' := ⟨p.sat.less h, p.ev, p.sub, p.dom, p.bor, p.al⟩
theorem pdm_o {ox : OX} {t : MX} (he : PE X e (rdO X.K S ox)) (ht : ∀ S, PA X es (rdM X.K S t)) (hs : starEach (e :: es) X.env = (false, eval e X.env) :: starEach es X.env := by rfl) : PA X (e :: es) (rdM X.K S (mO ox t)) :=
  paI (pa_cons (t := fun σ H Q => ∃ S, rdM X.K S t σ H Q) he ⟨fun p pins s σ H Q I ⟨S, q⟩ => (ht S).run p pins s σ H Q I q⟩ hs) fun σ H Q ⟨δ, z, δ', s, q, k⟩ => by
    obtain ⟨⟨d, δ1⟩, q1, q2⟩ := ob q
    obtain ⟨⟨xs, δ2⟩, q3, q4⟩ := ob q2
    cases q4
    refine ⟨δ, d, δ1, s, q1, fun a H1 hn p1 s1 r1 => ⟨fun b => S b ∨ b = a, δ1, xs, δ2, s1, q3, fun vs as H2 p2 s2 nd fr m => ?_⟩⟩
    have p2' : PostE X.K S δ1 σ H1 δ2 H2 := p2.less fun a h => .inl h
    have na : H1 a ≠ none := r1.there
    have eqv : ∀ b, (S b ∨ b ∈ a :: as) → ((S b ∨ b = a) ∨ b ∈ as) := fun b h => by
      rcases h with h | h
      · exact .inl (.inl h)
      · rcases List.mem_cons.mp h with h | h
        · exact .inl (.inr h)
        · exact .inr h
    have w : Wid H2 (Sx (fun b => (S b ∨ b = a) ∨ b ∈ as) δ2 σ) (Sx (fun b => S b ∨ b ∈ a :: as) δ2 σ) := fun x h => .inl (h.elim (fun z => .inl (eqv x z)) .inr)
    refine k (.ref a :: vs) (a :: as) H2 (p1.trans p2') (s2.less eqv) (List.nodup_cons.mpr ⟨fun h => na (fr a h), nd⟩) (fun b h => ?_) (.o (r1.ev p2.ev (fun _ h => .inr h) (fun x h => ?_) fun z => ?_) (m.wid w))
    · rcases List.mem_cons.mp h with h | h
      · rw [h]; exact hn
      · exact none_back p1.al (fr b h)
    · rcases h with h | h
      · rcases eqv x h with h | h
        · exact .inl (.inl h)
        · exact .inr (fr x h)
      · exact .inl (.inr (own_sub p2.sub h))
    · exact s.ownThere (own_sub p1.sub z) hn
/-- several names at once -/
def setN : List Nat → List Sl → DEnv → DEnv
  | i :: is, s :: ss, δ => setN is ss (δ.set i (some s))
  | _, _, δ => δ
def setV : List Nat → List V → L2.St → L2.St
  | i :: is, v :: vs, σ => setV is vs (σ.set i (some v))
  | _, _, σ => σ
theorem post_setN : ∀ (is : List Nat) {δ0 : DEnv} {σ0 : L2.St} {H0 : Hp} {δ : DEnv} {σ : L2.St} {H : Hp} {vs : List V} {xs : List Sl} {as : List Addr}, (∀ i ∈ is, isBor δ0 i = false) → PostS K S δ0 σ0 H0 δ σ H → (∀ x, S x → H0 x ≠ none) → (∀ x, OwnAt δ0 σ0 x → H0 x ≠ none) →
    Sat K (fun b => S b ∨ b ∈ as) δ σ H → as.Nodup → (∀ a ∈ as, H0 a = none) → (∀ a ∈ as, ¬ OwnAt δ σ a) → MOk K H (Sx (fun b => S b ∨ b ∈ as) δ σ) vs xs as → is.length = xs.length → PostS K S δ0 σ0 H0 (setN is xs δ) (setV is vs σ) H
  | [], _, _, _, _, _, _, _, _, _, _, p, _, _, _, _, _, _, m, e => by cases m <;> first | exact p | cases e
  | i :: is, δ0, σ0, H0, δ, σ, H, vs, xs, as, nb, p, al, ow, s, nd, fr, no, m, e => by
    have nb' := fun i h => nb i (List.mem_cons_of_mem _ h)
    have hb := nb i List.mem_cons_self
    have bor' : ∀ {sl : Option Sl} {u : Option V} (j : Nat) (c : Ct), δ0[j]? = some (some (.b c)) → ∃ c', (δ.set i sl)[j]? = some (some (.b c')) ∧ (σ.set i u)[j]? = σ0[j]? := fun {sl u} j c h => by
      have n : i ≠ j := fun z => by subst z; exact notBor hb c h
      obtain ⟨c', e1, e2⟩ := p.bor j c h
      exact ⟨c', by rw [List.getElem?_set_ne n]; exact e1, by rw [List.getElem?_set_ne n]; exact e2⟩
    cases m with
    | nil => cases e
    | p r m =>
      rename_i v d vs xs
      have w : Wid H (Sx (fun b => S b ∨ b ∈ as) δ σ) (Sx (fun b => S b ∨ b ∈ as) (δ.set i (some (.p d))) (σ.set i (some v))) := fun x h => .inl (h.elim .inl fun z => .inr (own_setP z))
      have s1 := s.setP (i := i) r
      refine post_setN is nb' ⟨s1.less fun a h => .inl h, p.ev, fun a h => p.new a (own_setP h), bor', p.al⟩ al ow s1 nd fr (fun a h z => no a h (own_setP z)) (m.wid w) (by simpa using e)
    | o r m =>
      rename_i a c vs xs as
      obtain ⟨na, nd'⟩ := List.nodup_cons.mp nd
      have fa := fr a List.mem_cons_self
      have s1 : Sat K (fun b => S b ∨ b ∈ as) (δ.set i (some (.o c))) (σ.set i (some (.ref a))) H := s.setO r (.inr List.mem_cons_self) (fun x h => h.elim .inl fun z => .inr (List.mem_cons_of_mem _ z))
        (fun z => z.elim (fun z => al a z fa) na) (no a List.mem_cons_self)
      have w : Wid H (Sx (fun b => S b ∨ b ∈ a :: as) δ σ) (Sx (fun b => S b ∨ b ∈ as) (δ.set i (some (.o c))) (σ.set i (some (.ref a)))) := fun x h => .inl (h.elim (fun z => z.elim (fun z => .inl (.inl z)) fun z => .inl (.inr (List.mem_cons_of_mem _ z))) fun z => (own_setO z).elim (fun z => .inl (.inr (by rw [z]; exact List.mem_cons_self))) .inr)
      refine post_setN is nb' ⟨s1.less fun a h => .inl h, p.ev, fun x h => (own_setO h).elim (fun z => .inr (by rw [z]; exact fa)) (p.new x), bor', p.al⟩ al ow s1 nd' (fun b h => fr b (List.mem_cons_of_mem _ h)) (fun b h z => (own_setO z).elim (fun z => na (z ▸ h)) (no b (List.mem_cons_of_mem _ h))) (m.wid w) (by simpa using e)
def sPar (is : List Nat) (mx : MX) : SX := fun δ => if is.any (isBor δ) then none else (mx δ).bind fun p => if is.length = p.1.length then some (.nx (setN is p.1 p.2)) else none
theorem rdS_par {is : List Nat} {mx : MX} (h : rdS K S (sPar is mx) DD σ H) : rdM K S mx σ H fun vs H1 => vs.length = is.length ∧ DD.nx (setV is vs σ) H1 := by
  obtain ⟨δ, f, s, q, k⟩ := h
  unfold sPar at q
  split at q
  · cases q
  · rename_i nb
    obtain ⟨⟨xs, δ1⟩, q1, q2⟩ := ob q
    split at q2
    · rename_i hl
      cases q2
      refine ⟨δ, xs, δ1, s, q1, fun vs as H1 p1 s1 nd fr m => ⟨?_, ?_⟩⟩
      · rw [hl]
        exact m.length
      · refine k _ H1 (post_setN is (fun i hi => ?_) (PostS.ofE p1) s.alloc (fun x z => s.ownThere z) s1 nd fr (fun a h z => s.ownThere (own_sub p1.sub z) (fr a h)) m hl)
        cases hb : isBor δ i with
        | false => rfl
        | true => exact absurd (List.any_eq_true.mpr ⟨i, hi, hb⟩) nb
    · cases q2
theorem psd_par {pt p1 : Pos} {kt k2} {mx : MX} (hc : X.calm = true) (hN : X.N.Nodup) (hi : X.N[i]? = some x) (hj : X.N[j]? = some y) (hij : i ≠ j)
    (hx : X.env.scope.names.lookup x = some .local) (hy : X.env.scope.names.lookup y = some .local) (ha : PA X [a, b] (rdM X.K S mx))
    (hw : swappedStores [.Tuple [.Name x px, .Name y py] kt pt] (.Tuple [a, b] k2 p1) X.env = pure (some [x, y]))
    (hs : swapsWithSole [.Tuple [.Name x px, .Name y py] kt pt] (.Tuple [a, b] k2 p1) pos.line X.env = pure false := by rfl) :
    PS X (.Assign [.Tuple [.Name x px, .Name y py] kt pt] (.Tuple [a, b] k2 p1) pos) (rdS X.K S (sPar [i, j] mx)) :=
  psI (ps_par hc hN hi hj hij hx hy ha hw hs) fun DD σ H h => by
    obtain ⟨δ, xs, δ1, s, q, k⟩ := rdS_par h
    refine ⟨δ, xs, δ1, s, q, fun vs as H1 p1 s1 nd fr m => ?_⟩
    obtain ⟨hl, k2⟩ := k vs as H1 p1 s1 nd fr m
    match vs, hl, k2 with
    | [v, w], _, k2 => exact ⟨v, w, rfl, k2⟩
theorem psd_par3 {pt p1 : Pos} {kt k2} {mx : MX} (hc : X.calm = true) (hN : X.N.Nodup) (hi : X.N[i]? = some x) (hj : X.N[j]? = some y) (hl : X.N[l]? = some z) (hij : i ≠ j) (hil : i ≠ l) (hjl : j ≠ l)
    (hx : X.env.scope.names.lookup x = some .local) (hy : X.env.scope.names.lookup y = some .local) (hz : X.env.scope.names.lookup z = some .local) (ha : PA X [a, b, c] (rdM X.K S mx))
    (hw : swappedStores [.Tuple [.Name x px, .Name y py, .Name z pz] kt pt] (.Tuple [a, b, c] k2 p1) X.env = pure (some [x, y, z]))
    (hs : swapsWithSole [.Tuple [.Name x px, .Name y py, .Name z pz] kt pt] (.Tuple [a, b, c] k2 p1) pos.line X.env = pure false := by rfl) :
    PS X (.Assign [.Tuple [.Name x px, .Name y py, .Name z pz] kt pt] (.Tuple [a, b, c] k2 p1) pos) (rdS X.K S (sPar [i, j, l] mx)) :=
  psI (ps_par3 hc hN hi hj hl hij hil hjl hx hy hz ha hw hs) fun DD σ H h => by
    obtain ⟨δ, xs, δ1, s, q, k⟩ := rdS_par h
    refine ⟨δ, xs, δ1, s, q, fun vs as H1 p1 s1 nd fr m => ?_⟩
    obtain ⟨hl, k2⟩ := k vs as H1 p1 s1 nd fr m
    match vs, hl, k2 with
    | [u, v, w], _, k2 => exact ⟨u, v, w, rfl, k2⟩
end
end DL

/-! DLh: targets, loops, changes in place. -/
namespace DL
open PySem PySem.Spec PyProof.Rows L2

section
variable {K : PySem.W.Frag} {S T : Addr → Prop} {δ δ1 δ2 δ' : DEnv} {σ σ1 σ2 σ' : L2.St} {H H1 H2 H' : Hp} {v w : V} {d : D} {ds : List D} {DD : Ends} {f : Fl}
variable {X : Cx} {e a b c : Expr} {pos p2 : Pos} {i j l n : Nat} {x y z : Str} {px py pz : Pos}

/-! ### targets -/
abbrev TX := D → DEnv → Option DEnv
abbrev TXs := List D → DEnv → Option DEnv
structure Off (ws : List Nat) (σ σ' : L2.St) : Prop where
  len : σ'.length = σ.length
  off : ∀ j, j ∉ ws → σ'[j]? = σ[j]?
def rdG (K : PySem.W.Frag) (S : Addr → Prop) (tx : TX) (ws : List Nat) : TG := fun v σ H Q => ∃ δ d δ', Sat K S δ σ H ∧ Rp K H (Sx S δ σ) v d ∧ tx d δ = some δ' ∧ ∀ σ', PostS K S δ σ H δ' σ' H → Off ws σ σ' → Q σ' H
def rdGs (K : PySem.W.Frag) (S : Addr → Prop) (tx : TXs) (ws : List Nat) : TGs := fun v σ H Q => ∃ δ d δ', Sat K S δ σ H ∧ RpA K H (Sx S δ σ) v d ∧ tx d δ = some δ' ∧ ∀ σ', PostS K S δ σ H δ' σ' H → Off ws σ σ' → Q σ' H
theorem pgI {X : Cx} {e : Expr} {t t' : TG} (h : PG X e t) (i : ∀ v σ H Q, t' v σ H Q → t v σ H Q) : PG X e t' := ⟨fun pins s σ H v u Q I r q => h.run pins s σ H v u Q I r (i v σ H Q q)⟩
theorem pgsI {X : Cx} {e : List Expr} {t t' : TGs} (h : PGs X e t) (i : ∀ v σ H Q, t' v σ H Q → t v σ H Q) : PGs X e t' := ⟨fun pins s σ H v u Q I r q => h.run pins s σ H v u Q I r (i v σ H Q q)⟩
def txN (i : Nat) : TX := fun d δ => if isBor δ i then none else some (δ.set i (some (.p d)))
theorem pgd_name (hN : X.N.Nodup) (hi : X.N[i]? = some x) (hx : Loc X.env.scope x) (hf : X.fn x = true ∨ X.env.scope.names.lookup x = some .local := by first | exact .inl rfl | exact .inr rfl | assumption) : PG X (.Name x pos) (rdG X.K S (txN i) [i]) :=
  pgI (pg_name hN hi hx hf) fun v σ H Q ⟨δ, d, δ', s, r, q, k⟩ => by
    unfold txN at q
    split at q
    · cases q
    · rename_i nb
      cases q
      refine k _ (post_setP (PostE.refl s) (by simpa using nb) r) ⟨by simp, fun j hj => List.getElem?_set_ne (fun z => hj (by simp [z]))⟩
def txsNil : TXs := fun ds δ => match ds with
  | [] => some δ
  | _ => none
def txsCons (t : TX) (u : TXs) : TXs := fun ds δ => match ds with
  | d :: ds => (t d δ).bind (u ds)
  | _ => none
theorem pgsd_nil : PGs X [] (rdGs X.K S txsNil []) := pgsI pgs_nil fun v σ H Q ⟨δ, d, δ', s, r, q, k⟩ => by
  cases r with
  | nil => cases q; exact ⟨rfl, k σ (PostS.refl s) ⟨rfl, fun _ _ => rfl⟩⟩
  | cons _ _ => cases q
theorem pgsd_cons {e : Expr} {es : List Expr} {t : TX} {u : TXs} {ws us : List Nat} (h1 : PG X e (rdG X.K S t ws)) (h2 : PGs X es (rdGs X.K S u us))
    (hs : (assignEach (e :: es) X.env).map (·.2) = assign e X.env :: (assignEach es X.env).map (·.2) := by rfl) : PGs X (e :: es) (rdGs X.K S (txsCons t u) (ws ++ us)) :=
  pgsI (pgs_cons h1 h2 hs) fun v σ H Q ⟨δ, d, δ', s, r, q, k⟩ => by
    cases r with
    | nil => cases q
    | cons r rr =>
      obtain ⟨δ1, q1, q2⟩ := ob q
      exact ⟨_, _, rfl, δ, _, δ1, s, r, q1, fun σ1 p1 o1 => ⟨δ1, _, δ', p1.sat, p1.rpA rr, q2, fun σ2 p2 o2 => k σ2 (p1.trans p2) ⟨o2.len.trans o1.len, fun j hj => by
        rw [List.mem_append, not_or] at hj
        exact (o2.off j hj.2).trans (o1.off j hj.1)⟩⟩⟩
def txT (n : Nat) (u : TXs) : TX := fun d δ => match d with
  | .tup ds => if ds.length = n then u ds δ else none
  | .lst ds => if ds.length = n then u ds δ else none
  | _ => none
theorem pgOr {X : Cx} {e : Expr} {t t' : TG} (h : PG X e t) (h' : PG X e t') : PG X e (fun v σ H Q => t v σ H Q ∨ t' v σ H Q) := ⟨fun pins s σ H v u Q I r q => q.elim (h.run pins s σ H v u Q I r) (h'.run pins s σ H v u Q I r)⟩
theorem pgd_tup {es : List Expr} {k : Nat} {u : TXs} {ws : List Nat} (hc : X.calm = true) (h : PGs X es (rdGs X.K S u ws))
    (hn : (assignEach es X.env).length = n := by rfl) (hst : (assignEach es X.env).findIdx? (·.1) = none := by rfl) : PG X (.Tuple es k pos) (rdG X.K S (txT n u) ws) :=
  pgI (pgOr (pg_tup hc h hn hst) (pg_lst hc h hn hst)) fun v σ H Q ⟨δ, d, δ', s, r, q, k⟩ => by
    unfold txT at q
    cases d <;> try (cases q; done)
    · rename_i ds
      have q' : (if ds.length = n then u ds δ else none) = some δ' := q
      split at q'
      · rename_i hl
        cases r with
        | lst m r => exact .inr ⟨_, _, rfl, m.sq, by rw [r.length]; exact hl, δ, ds, δ', s, r, q', k⟩
      · cases q'
    · rename_i ds
      have q' : (if ds.length = n then u ds δ else none) = some δ' := q
      split at q'
      · rename_i hl
        cases r with
        | tup m r => exact .inl ⟨_, _, rfl, m.sq, by rw [r.length]; exact hl, δ, ds, δ', s, r, q', k⟩
      · cases q'

/-! ### for -/
def loopS (tx : TX) (body : SX) : List D → DEnv → Option Fl
  | [], δ => some (.nx δ)
  | d :: ds, δ => (tx d δ).bind fun δ1 => (body δ1).bind fun f => match f with
    | .nx δ2 => loopS tx body ds δ2
    | .ct δ2 => loopS tx body ds δ2
    | .bk δ2 => some (.nx δ2)
    | .rt r δ2 => some (.rt r δ2)
def sFor (ix : IX) (tx : TX) (body : SX) : SX := fun δ => (ix δ).bind fun p => loopS tx body p.1 p.2
theorem for_core {J : It} {src : (Addr → Prop) → Hp → Prop} {tx : TX} {ws : List Nat} {sb : SX} {δ0 : DEnv} {σ0 : L2.St} {H0 : Hp} (P1 : PostS K S δ0 σ0 H0 δ1 σ H1) (W : Walks K J src ds) (hsrc : src (Sx S δ1 σ) H1) (q2 : loopS tx sb ds δ1 = some f) (k : endS K S δ0 σ0 H0 DD f) :
    ∃ W : Nat → Nat → L2.St → Hp → Prop, (∃ m, W 0 m σ H1) ∧ ∀ i m σ H, W i m σ H →
      (J.stop i H ∧ DD.nx σ H) ∨ (J.go i H ∧ ∃ N : L2.St → Hp → Prop, (∀ σ' H', N σ' H' → ∃ m', m' < m ∧ W (i + 1) m' σ' H') ∧ ∀ x H', J.yld i H x H' → rdG K S tx ws x σ H' fun σ2 H2 => rdS K S sb { DD with nx := N, ct := N, bk := DD.nx } σ2 H2) := by
  refine ⟨fun i m σ' H' => m = ds.length - i ∧ i ≤ ds.length ∧ ∃ δ', PostS K S δ0 σ0 H0 δ' σ' H' ∧ src (Sx S δ' σ') H' ∧ loopS tx sb (ds.drop i) δ' = some f, ⟨_, rfl, Nat.zero_le _, δ1, P1, hsrc, q2⟩, ?_⟩
  rintro i m σ2 H2 ⟨rfl, hi, δ2, P2, src2, e2⟩
  by_cases hlt : i < ds.length
  · refine .inr ⟨W.go _ i H2 src2 hlt, fun σ3 H3 => ∃ δ3, PostS K S δ0 σ0 H0 δ3 σ3 H3 ∧ src (Sx S δ3 σ3) H3 ∧ loopS tx sb (ds.drop (i + 1)) δ3 = some f, fun σ3 H3 h3 => ⟨ds.length - (i + 1), by omega, rfl, hlt, h3⟩, fun x H3 y => ?_⟩
    obtain ⟨ev, d, hd, rx⟩ := W.yld _ i H2 x H3 src2 (fun a z => P2.sat.there z) y hlt
    have hdrop : ds.drop i = d :: ds.drop (i + 1) := by
      obtain ⟨h1, h2⟩ := List.getElem?_eq_some_iff.mp hd
      rw [← h2]
      exact List.drop_eq_getElem_cons h1
    rw [hdrop] at e2
    obtain ⟨δ3, e3, e4⟩ := ob e2
    obtain ⟨f3, e5, e6⟩ := ob e4
    have P2g := P2.grow ev
    refine ⟨δ2, d, δ3, P2g.sat, rx, e3, fun σ3 p3 o3 => ?_⟩
    have P3 := P2g.trans p3
    have src3 : src (Sx S δ3 σ3) H3 := W.ev _ _ _ _ _ (W.ev _ _ _ _ _ src2 ev (fun _ z => z.elim) Wid.refl) p3.ev (fun _ z => .inr z) p3.wid
    refine ⟨δ3, f3, P3.sat, e5, ?_⟩
    have go : ∀ δ4 σ4 H4, loopS tx sb (ds.drop (i + 1)) δ4 = some f → PostS K S δ3 σ3 H3 δ4 σ4 H4 → ∃ δ3, PostS K S δ0 σ0 H0 δ3 σ4 H4 ∧ src (Sx S δ3 σ4) H4 ∧ loopS tx sb (ds.drop (i + 1)) δ3 = some f := fun δ4 σ4 H4 e p4 =>
      ⟨δ4, P3.trans p4, W.ev _ _ _ _ _ src3 p4.ev (fun _ z => .inr z) p4.wid, e⟩
    cases f3 with
    | nx δ4 => exact fun σ4 H4 p4 => go δ4 σ4 H4 e6 p4
    | ct δ4 => exact fun σ4 H4 p4 => go δ4 σ4 H4 e6 p4
    | bk δ4 => cases e6; exact fun σ4 H4 p4 => k σ4 H4 (P3.trans p4)
    | rt r δ4 => cases e6; exact rtS.on P3 k
  · have e : i = ds.length := by omega
    subst e
    rw [List.drop_length] at e2
    cases e2
    exact .inl ⟨W.stop _ _ H2 src2 (Nat.le_refl _), k σ2 H2 P2⟩
theorem psd_for {iter tg : Expr} {body : List Stmt} {ix : IX} {tx : TX} {ws : List Nat} {sb : SX} (hp : PassesOwn (model X.prog X.w) X.A X.env X.xe) (hc : X.calm = true) (hi : PI X tg iter (rdI X.K S ix)) (hg : PG X tg (rdG X.K S tx ws)) (hb : PSs X body (rdS X.K S sb))
    (hs : ∀ x, foldedSetIterable iter X.env x = pure x := by intro _; rfl) : PS X (.For tg iter body [] pos) (rdS X.K S (sFor ix tx sb)) :=
  psI (ps_for hp hc hi hg hb hs) fun DD σ H ⟨δ, f, s, q, k⟩ => by
    obtain ⟨⟨ds, δ1⟩, q1, q2⟩ := ob q
    exact ⟨δ, ds, δ1, s, q1, fun J H1 src p1 W hsrc => for_core (PostS.ofE p1) W hsrc q2 k⟩

/-! ### while -/
def loopW (bx : BX) (body : SX) : Nat → DEnv → Option Fl
  | 0, _ => none
  | n + 1, δ => (bx δ).bind fun p => match p.1 with
    | false => some (.nx p.2)
    | true => (body p.2).bind fun f => match f with
      | .nx δ2 => loopW bx body n δ2
      | .ct δ2 => loopW bx body n δ2
      | .bk δ2 => some (.nx δ2)
      | .rt r δ2 => some (.rt r δ2)
theorem psd_while {body : List Stmt} {bx : BX} {sb : SX} (N : Nat) (hp : PassesOwn (model X.prog X.w) X.A X.env X.xe) (hc : PT X c (rdT X.K S bx)) (hb : PSs X body (rdS X.K S sb)) : PS X (.While c body [] pos) (rdS X.K S (loopW bx sb N)) :=
  psI (ps_while hp hc hb) fun DD σ H ⟨δ, f, s, q, k⟩ => by
    refine ⟨fun m σ' H' => ∃ δ', PostS X.K S δ σ H δ' σ' H' ∧ loopW bx sb m δ' = some f, ⟨N, δ, PostS.refl s, q⟩, ?_⟩
    rintro m σ2 H2 ⟨δ2, P2, e2⟩
    cases m with
    | zero => cases e2
    | succ m =>
      obtain ⟨⟨b, δ3⟩, e3, e4⟩ := ob e2
      refine ⟨δ2, b, δ3, P2.sat, e3, fun H3 p3 => ?_⟩
      have P3 := P2.trans (PostS.ofE p3)
      cases b with
      | false => cases e4; exact k σ2 H3 P3
      | true =>
        obtain ⟨f3, e5, e6⟩ := ob e4
        refine ⟨fun σ' H' => ∃ δ', PostS X.K S δ σ H δ' σ' H' ∧ loopW bx sb m δ' = some f, fun σ' H' h => ⟨m, Nat.lt_succ_self m, h⟩, δ3, f3, P3.sat, e5, ?_⟩
        cases f3 with
        | nx δ4 => exact fun σ4 H4 p4 => ⟨δ4, P3.trans p4, e6⟩
        | ct δ4 => exact fun σ4 H4 p4 => ⟨δ4, P3.trans p4, e6⟩
        | bk δ4 => cases e6; exact fun σ4 H4 p4 => k σ4 H4 (P3.trans p4)
        | rt r δ4 => cases e6; exact rtS.on P3 k

/-! ### changes in place -/
def Sl.put : Sl → Ct → Option Sl
  | .o _, c => some (.o c)
  | .b _, c => some (.b c)
  | .p _, _ => none
def ownC (δ : DEnv) (i : Nat) : Option Ct := match δ[i]? with
  | some (some (.o c)) => some c
  | some (some (.b c)) => some c
  | _ => none
def putC (δ : DEnv) (i : Nat) (c : Ct) : DEnv := match δ[i]? with
  | some (some (.o _)) => δ.set i (some (.o c))
  | some (some (.b _)) => δ.set i (some (.b c))
  | _ => δ
theorem ownC_at (s : Sat K S δ σ H) {c : Ct} (h : ownC δ i = some c) : ∃ a, σ[i]? = some (some (.ref a)) ∧ OwnAt δ σ a ∧ CRp K H (Sx S δ σ) a c ∧ isOwn δ i := by
  unfold ownC at h
  split at h
  · rename_i c' e; cases h
    obtain ⟨a, q, o, r⟩ := ownAt_of_o s (.inl e)
    exact ⟨a, q, o, r, _, e, rfl⟩
  · rename_i c' e; cases h
    obtain ⟨a, q, o, r⟩ := ownAt_of_o s (.inr e)
    exact ⟨a, q, o, r, _, e, rfl⟩
  · cases h
theorem putC_len {c : Ct} : (putC δ i c).length = δ.length := by unfold putC; split <;> simp
theorem putC_same {c c' : Ct} (h : ownC δ i = some c) : (δ[i]? = some (some (.o c)) ∧ (putC δ i c')[i]? = some (some (.o c'))) ∨ (δ[i]? = some (some (.b c)) ∧ (putC δ i c')[i]? = some (some (.b c'))) := by
  unfold ownC at h
  split at h
  · rename_i c0 e; cases h
    refine .inl ⟨e, ?_⟩
    unfold putC; rw [e]
    exact List.getElem?_set_self (List.getElem?_eq_some_iff.mp e).1
  · rename_i c0 e; cases h
    refine .inr ⟨e, ?_⟩
    unfold putC; rw [e]
    exact List.getElem?_set_self (List.getElem?_eq_some_iff.mp e).1
  · cases h
theorem putC_ne {c : Ct} (h : i ≠ j) : (putC δ i c)[j]? = δ[j]? := by unfold putC; split <;> simp [List.getElem?_set_ne h]
theorem putC_own {c c' : Ct} (h : ownC δ i = some c) (j : Nat) : isOwn (putC δ i c') j ↔ isOwn δ j := by
  by_cases n : i = j
  · subst n
    rcases putC_same (c' := c') h with ⟨a, b⟩ | ⟨a, b⟩
    · exact ⟨fun _ => ⟨_, a, rfl⟩, fun _ => ⟨_, b, rfl⟩⟩
    · exact ⟨fun _ => ⟨_, a, rfl⟩, fun _ => ⟨_, b, rfl⟩⟩
  · unfold isOwn; rw [putC_ne n]
theorem putC_ownAt {c c' : Ct} (h : ownC δ i = some c) (x : Addr) : OwnAt (putC δ i c') σ x ↔ OwnAt δ σ x :=
  ⟨fun ⟨j, o, q⟩ => ⟨j, (putC_own h j).mp o, q⟩, fun ⟨j, o, q⟩ => ⟨j, (putC_own h j).mpr o, q⟩⟩
/-- the object at a, slot i's, is changed (and nothing else) -/
theorem Sat.mut {c c' : Ct} {a : Addr} (s : Sat K S δ σ H) (h : ownC δ i = some c) (q : σ[i]? = some (some (.ref a))) (ev : Ev (· = a) H H') (th : ∀ x, H x ≠ none → H' x ≠ none) (r : CRp K H' (Sx S δ σ) a c') : Sat K S (putC δ i c') σ H' := by
  obtain ⟨a', q', oa, r0, oi⟩ := ownC_at s h
  rw [q] at q'; cases q'
  have w : Wid H (Sx S δ σ) (Sx S (putC δ i c') σ) := fun x z => .inl (z.elim .inl fun z => .inr ((putC_ownAt h x).mp z))
  have w' : Wid H' (Sx S δ σ) (Sx S (putC δ i c') σ) := fun x z => .inl (z.elim .inl fun z => .inr ((putC_ownAt h x).mp z))
  have hm : ∀ x, x = a → Sx S δ σ x := fun x e => .inr (e ▸ oa)
  refine ⟨by rw [putC_len]; exact s.len, fun x z => th x (s.alloc x z), fun j z e => ?_, fun j z e => ?_, fun j z b e qq => ?_, fun j l b o o' qq qq' => s.sep j l b ((putC_own h j).mp o) ((putC_own h l).mp o') qq qq'⟩
  · by_cases n : i = j
    · subst n
      rcases putC_same (c' := c') h with ⟨_, b⟩ | ⟨_, b⟩ <;> rw [b] at e <;> cases e
    · rw [putC_ne n] at e
      obtain ⟨u, qu, ru⟩ := s.pure j z e
      exact ⟨u, qu, ru.ev ev hm w⟩
  · by_cases n : i = j
    · subst n
      have : z = c' := by
        rcases putC_same (c' := c') h with ⟨_, b⟩ | ⟨_, b⟩ <;> rw [b] at e <;> rcases e with e | e <;> cases e <;> rfl
      subst this
      exact ⟨a, q, r.wid w'⟩
    · rw [putC_ne n] at e
      obtain ⟨b, qb, rb⟩ := s.own j z e
      refine ⟨b, qb, rb.ev ev hm w fun z' => n ?_⟩
      subst z'
      refine s.sep i j b oi ?_ q qb
      rcases e with e | e <;> exact ⟨_, e, rfl⟩
  · by_cases n : i = j
    · subst n
      rcases putC_same (c' := c') h with ⟨e0, b0⟩ | ⟨_, b0⟩ <;> rw [b0] at e <;> cases e
      exact s.off i c b e0 qq
    · rw [putC_ne n] at e
      exact s.off j z b e qq
theorem post_mut {c c' : Ct} {a : Addr} (s : Sat K S δ σ H) (h : ownC δ i = some c) (q : σ[i]? = some (some (.ref a))) (ev : Ev (· = a) H H') (th : ∀ x, H x ≠ none → H' x ≠ none) (r : CRp K H' (Sx S δ σ) a c') : PostE K S δ σ H (putC δ i c') H' := by
  obtain ⟨a', q', oa, r0, oi⟩ := ownC_at s h
  rw [q] at q'; cases q'
  refine ⟨s.mut h q ev th r, ev.mono fun x e => .inl (e ▸ oa), fun j o => (putC_own h j).mp o, fun j ⟨sl, e⟩ => ?_, fun j c0 e => ?_, th⟩
  · by_cases n : i = j
    · subst n
      rcases putC_same (c' := c') h with ⟨_, b⟩ | ⟨_, b⟩ <;> exact ⟨_, b⟩
    · exact ⟨sl, by rw [putC_ne n]; exact e⟩
  · by_cases n : i = j
    · subst n
      rcases putC_same (c' := c') h with ⟨e0, b⟩ | ⟨_, b⟩
      · rw [e] at e0; cases e0
      · exact ⟨_, b⟩
    · exact ⟨c0, by rw [putC_ne n]; exact e⟩
theorem upd_th {a : Addr} {u : HO} : ∀ x, H x ≠ none → upd H a u x ≠ none := fun x h => by
  by_cases n : x = a
  · rw [n, upd_same]; exact fun z => nomatch z
  · rw [upd_ne n]; exact h
theorem upd_ev {a : Addr} {u : HO} : Ev (· = a) H (upd H a u) := fun x o e n => by rw [upd_ne n]; exact e
/-- name[index] = value -/
def sPut (i : Nat) (ix : HX) (ev : EX) : SX := fun δ => (ev δ).bind fun p => (hName i p.2).bind fun o => (ix o.2).bind fun q => (q.1.d q.2).bind fun k => match k, ownC q.2 i with
  | .int k, some (.lst ds) => (ixN ds.length k).bind fun j => some (.nx (putC q.2 i (.lst (ds.set j p.1))))
  | _, _ => none
theorem psd_put {ev : EX} {ix : HX} {o k : Expr} {ps : Pos} (ho : PE X o (tVar i)) (hi : PE X k (rdh X.K S ix)) (he : PE X e (rd X.K S ev))
    (ha : ∀ v, assign (.Subscript o k ps) X.env v = (do
      let ov ← holding [v] (eval o X.env)
      let iv ← holding [v, ov] (eval k X.env)
      standAt ps
      holding [v, ov, iv] (setItem ov iv v)
      release [v, ov, iv] []) := by intro _; rfl)
    (hs : swapsWithSole [.Subscript o k ps] e pos.line X.env = pure false := by rfl) (hw : swappedStores [.Subscript o k ps] e X.env = pure none := by rfl)
    (h1 : (assignEach [.Subscript o k ps] X.env).map (·.2) = [assign (.Subscript o k ps) X.env] := by rfl) : PS X (.Assign [.Subscript o k ps] e pos) (rdS X.K S (sPut i ix ev)) :=
  psI (ps_asg he (pg_sub ho hi set_list ha) hs hw h1) fun DD σ H ⟨δ, f, s, q, kk⟩ => by
    obtain ⟨⟨d, δ1⟩, q1, q⟩ := ob q
    obtain ⟨⟨_, δo⟩, qo, q⟩ := ob q
    obtain ⟨⟨h, δ2⟩, q2, q⟩ := ob q
    obtain ⟨dk, q3, q⟩ := ob q
    have eo : δo = δ1 := by
      unfold hName at qo
      split at qo <;> cases qo
      rfl
    subst eo
    cases dk <;> try (cases q; done)
    rename_i ki
    cases hc : ownC δ2 i with
    | none =>
      have q' : (match (D.int ki), ownC δ2 i with
        | .int k, some (.lst ds) => (ixN ds.length k).bind fun j => some (Fl.nx (putC δ2 i (.lst (ds.set j d))))
        | _, _ => none) = some f := q
      rw [hc] at q'; cases q'
    | some ct =>
      have q' : (match (D.int ki), ownC δ2 i with
        | .int k, some (.lst ds) => (ixN ds.length k).bind fun j => some (Fl.nx (putC δ2 i (.lst (ds.set j d))))
        | _, _ => none) = some f := q
      rw [hc] at q'
      cases ct <;> try (cases q'; done)
      rename_i ds
      obtain ⟨j, hj, qj⟩ := ob q'
      cases qj
      refine ⟨δ, d, δo, s, q1, fun v H1 p1 r1 => ?_⟩
      obtain ⟨slo, eslo⟩ : ∃ sl, δo[i]? = some (some sl) := by
        unfold hName at qo
        split at qo
        · rename_i sl e; exact ⟨sl, e⟩
        · cases qo
      obtain ⟨u, hu⟩ : ∃ u, σ[i]? = some (some u) := by
        cases slo with
        | p z => exact let ⟨u, a, _⟩ := p1.sat.pure i z eslo; ⟨u, a⟩
        | o z => exact let ⟨u, a, _⟩ := p1.sat.own i z (.inl eslo); ⟨_, a⟩
        | b z => exact let ⟨u, a, _⟩ := p1.sat.own i z (.inr eslo); ⟨_, a⟩
      refine ⟨u, hu, δo, h, δ2, p1.sat, q2, fun w H2 p2 r2 => ?_⟩
      obtain ⟨a, ha, oa, ra, oi⟩ := ownC_at p2.sat hc
      rw [hu] at ha; cases ha
      have hv := (r2.vw p2.sat q3).int
      subst hv
      cases ra with
      | lst hl rl =>
        rename_i xs
        refine ⟨a, xs, ki, j, rfl, rfl, hl, by rw [rl.length]; exact hj, ?_⟩
        refine kk σ _ ((PostS.ofE (p1.trans p2)).trans (PostS.ofE (post_mut p2.sat hc hu upd_ev upd_th ?_)))
        have hm : ∀ x, x = a → Sx S δ2 σ x := fun x e => .inr (e ▸ oa)
        exact .lst upd_same (((p2.rp r1).ev upd_ev hm Wid.refl |> fun r => (rl.ev upd_ev hm Wid.refl).set j r))
/-- name.append(value) -/
def sApp (i : Nat) (ev : EX) : SX := fun δ => (hName i δ).bind fun _ => match ownC δ i with
  | some (.lst _) => (ev δ).bind fun p => match ownC p.2 i with
    | some (.lst ds) => if ds.length < lim then some (.nx (putC p.2 i (.lst (ds ++ [p.1])))) else none
    | _ => none
  | _ => none
def hOne (ev : EX) : AX := aCons (hVal ev) aNil
theorem psd_app {ev : EX} {o : Expr} {apos cpos : Pos} (ho : PE X o (tVar i)) (he : PE X e (rd X.K S ev))
    (hs : swapsWith (.Call (.Attribute o "append" apos) [e] [] cpos) none pos.line X.env = pure false := by rfl)
    (hbase : attributeBase o "append" X.env (eval o X.env) = eval o X.env := by rfl)
    (hfew : ((backTo cpos (starEach [e] X.env)).all (fun x => !x.1) && (backToKw cpos (keywordEach [] X.env)).all (fun x => x.1.isSome)
      && decide ([e].length + ([] : List Keyword).length + (if ([] : List Keyword).isEmpty then 0 else 1) < 30)) = true := by rfl)
    (hline : (apos.endLine == cpos.line) = true := by rfl) (hst : starEach [e] X.env = (false, eval e X.env) :: starEach [] X.env := by rfl) (hplain : (backTo cpos (starEach [] X.env)).any (·.1) = false := by rfl) :
    PS X (.Expr (.Call (.Attribute o "append" apos) [e] [] cpos) pos) (rdS X.K S (sApp i ev)) :=
  psI (ps_expr (pe_bm PySem.F.plainAttrs_list PySem.F.slot_list_append PySem.F.type_list_append mt_append ho (pda_cons (ph_val he) pda_nil hst) hbase hfew hline hst hplain) hs) fun DD σ H ⟨δ, f, s, q, kk⟩ => by
    obtain ⟨⟨_, δo⟩, qo, q⟩ := ob q
    cases hc : ownC δ i with
    | none => rw [hc] at q; cases q
    | some ct =>
      rw [hc] at q
      cases ct <;> try (cases q; done)
      rename_i ds0
      obtain ⟨⟨d, δ1⟩, q1, q⟩ := ob q
      cases hc1 : ownC δ1 i with
      | none => 
        have q' : (match ownC δ1 i with
          | some (.lst ds) => if ds.length < lim then some (Fl.nx (putC δ1 i (.lst (ds ++ [d])))) else none
          | _ => none) = some f := q
        rw [hc1] at q'; cases q'
      | some ct1 =>
        have q' : (match ownC δ1 i with
          | some (.lst ds) => if ds.length < lim then some (Fl.nx (putC δ1 i (.lst (ds ++ [d])))) else none
          | _ => none) = some f := q
        rw [hc1] at q'
        cases ct1 <;> try (cases q'; done)
        rename_i ds
        have q2 : (if ds.length < lim then some (Fl.nx (putC δ1 i (.lst (ds ++ [d])))) else none) = some f := q'
        split at q2
        · rename_i hl
          cases q2
          obtain ⟨a, ha, oa, ra, oi⟩ := ownC_at s hc
          refine ⟨.ref a, ha, ?_, δ, [.val d], δ1, s, ?_, fun vs H1 p1 r1 => ?_⟩
          · cases ra with
            | lst h _ => exact .inl ⟨rfl, _, .inl (.inl h)⟩
          · show aCons (hVal ev) aNil δ = _
            unfold aCons hVal
            rw [q1]
            rfl
          · cases r1 with
            | cons r1 rr =>
              cases rr
              obtain ⟨a', ha', oa', ra', oi'⟩ := ownC_at p1.sat hc1
              rw [ha] at ha'; cases ha'
              cases ra' with
              | lst h rl =>
                rename_i xs
                refine ⟨a, xs, _, rfl, rfl, h, by rw [rl.length]; exact lim_lt hl, ?_⟩
                have hm : ∀ x, x = a → Sx S δ1 σ x := fun x e => .inr (e ▸ oa')
                exact kk σ _ ((PostS.ofE p1).trans (PostS.ofE (post_mut p1.sat hc1 ha upd_ev upd_th (.lst upd_same ((rl.ev upd_ev hm Wid.refl).append (.cons (Rp.ev upd_ev hm Wid.refl r1) .nil))))))
        · cases q2
/-- name += int -/
def sAug (g : Int → Int → Int) (i : Nat) (ev : EX) : SX := fun δ => match δ[i]? with
  | some (some (.p (.int a))) => (ev δ).bind fun p => match p.1 with
    | .int b => if isBor p.2 i then none else some (.nx (p.2.set i (some (.p (.int (g a b))))))
    | _ => none
  | _ => none
theorem psd_aug {g : Int → Int → Int} {op : Operator} {ev : EX} (hop : PIp X op (ipI g)) (hN : X.N.Nodup) (hi : X.N[i]? = some x) (hx : Loc X.env.scope x) (he : PE X e (rd X.K S ev)) (hf : X.fn x = true ∨ X.env.scope.names.lookup x = some .local := by first | exact .inl rfl | exact .inr rfl | assumption) :
    PS X (.AugAssign (.Name x px) op e pos) (rdS X.K S (sAug g i ev)) :=
  psI (ps_aug hN hi hx he hop hf) fun DD σ H ⟨δ, f, s, q, kk⟩ => by
    unfold sAug at q
    split at q
    · rename_i a0 e0
      obtain ⟨⟨d, δ1⟩, q1, q⟩ := ob q
      cases d <;> try (cases q; done)
      rename_i b0
      have q2 : (if isBor δ1 i then none else some (Fl.nx (δ1.set i (some (.p (.int (g a0 b0))))))) = some f := q
      split at q2
      · cases q2
      · rename_i nb
        cases q2
        obtain ⟨v, hv, rv⟩ := s.pure i _ e0
        cases rv
        refine ⟨_, hv, δ, _, δ1, s, q1, fun w H1 p1 r1 => ?_⟩
        cases r1
        refine ⟨a0, b0, rfl, rfl, ?_⟩
        have nb0 : isBor δ i = false := by unfold isBor; rw [e0]
        exact kk _ H1 (post_setP p1 nb0 (.int _))
    · cases q
end
end DL

/-! DLi: enumerate, zip, comprehensions. -/
namespace DL
open PySem PySem.Spec PyProof.Rows L2

section
variable {K : PySem.W.Frag} {S T : Addr → Prop} {δ δ1 δ2 δ' : DEnv} {σ σ1 σ2 σ' : L2.St} {H H1 H2 H' : Hp} {v w : V} {d : D} {ds es : List D} {DD : Ends} {f : Fl}
variable {X : Cx} {e a b c : Expr} {pos p2 : Pos} {i j l n : Nat} {x y z : Str} {px py pz : Pos}

/-! ### enumerate -/
def enumD : Nat → List D → List D
  | _, [] => []
  | k, d :: ds => .tup [.int k, d] :: enumD (k + 1) ds
theorem enumD_length : ∀ (k : Nat) (ds : List D), (enumD k ds).length = ds.length
  | _, [] => rfl
  | k, d :: ds => by show (enumD (k + 1) ds).length + 1 = _; rw [enumD_length (k + 1) ds]; rfl
theorem enumD_get : ∀ (k : Nat) (ds : List D) (i : Nat) (d : D), ds[i]? = some d → (enumD k ds)[i]? = some (.tup [.int ((k + i : Nat) : Int), d])
  | _, [], i, d, h => by simp at h
  | k, e :: ds, 0, d, h => by cases h; rfl
  | k, e :: ds, i + 1, d, h => by
    show (enumD (k + 1) ds)[i]? = _
    rw [enumD_get (k + 1) ds i d (by simpa using h)]
    have : k + 1 + i = k + (i + 1) := by omega
    rw [this]
/-- a list's items, a module's or a frame's -/
def MLR (K : PySem.W.Frag) (H : Hp) (T : Addr → Prop) (a : Addr) (xs : List V) : Prop := ML K H T a xs ∨ MR K H T a xs
theorem MLR.sq {a : Addr} {xs : List V} (h : MLR K H T a xs) : SqL K H a xs := h.elim ML.sq MR.sq
theorem MLR.ev {M S' : Addr → Prop} {a : Addr} {xs : List V} (h : MLR K H S a xs) (e : Ev M H H') (hm : ∀ x, M x → S x) (w : Wid H S S') : MLR K H' S' a xs := h.elim (fun z => .inl (z.ev e hm w)) fun z => .inr (z.ev e hm w)
theorem walks_enum {a : Addr} {xs : List V} : Walks K (Ite K a) (fun T H => MLR K H T a xs ∧ RpA K H T xs ds) (enumD 0 ds) where
  ev := fun T T' M H H' h e m w => ⟨h.1.ev e m w, h.2.ev e m w⟩
  go := fun T i H h hi => by
    rw [enumD_length] at hi
    obtain ⟨v, hv, _⟩ := h.2.get (show ds[i]? = some ds[i] by simp [hi])
    exact ⟨xs, v, h.1.sq, hv⟩
  yld := fun T i H x H' h al y hi => by
    rw [enumD_length] at hi
    obtain ⟨p, u, rfl, hp, rfl, y⟩ := y
    obtain ⟨d, hd, r⟩ := h.2.getV (y xs h.1.sq)
    refine ⟨Ev.new hp, _, enumD_get 0 ds i d hd, ?_⟩
    rw [Nat.zero_add]
    exact new_tup hp al (.cons (.int _) (.cons r .nil))
  stop := fun T i H h hi => by rw [enumD_length] at hi; exact ⟨xs, h.1.sq, by rw [h.2.length]; exact hi⟩
def lstD : D → Option (List D)
  | .lst xs => some xs
  | .ro xs => some xs
  | _ => none
theorem rp_lstD (r : Rp K H T v d) (h : lstD d = some ds) : ∃ a xs, v = .ref a ∧ MLR K H T a xs ∧ RpA K H T xs ds := by
  cases d <;> cases h
  · cases r with
    | lst m r => exact ⟨_, _, rfl, .inl m, r⟩
  · cases r with
    | ro m r => exact ⟨_, _, rfl, .inr m, r⟩
def iEnumD (ev : EX) : IX := fun δ => (ev δ).bind fun p => (lstD p.1).bind fun ds => some (enumD 0 ds, p.2)
theorem pdi_enum {p pos tpos : Pos} {elts : List Expr} {kk : Nat} {ev : EX} (hg : Gl X "enumerate") (hm : X.mg "enumerate" = none) (he : PE X e (rd X.K S ev)) (hs : starEach [e] X.env = [(false, eval e X.env)] := by rfl) (hs0 : starEach [e] X.env = (false, eval e X.env) :: starEach [] X.env := by rfl) :
    PI X (.Tuple elts kk tpos) (.Call (.Name "enumerate" p) [e] [] pos) (rdI X.K S (iEnumD ev)) :=
  piI (pi_enum hg hm (pda_cons (ph_val he) pda_nil hs0) hs) fun σ H R ⟨δ, ds, δe, s, q, k⟩ => by
    obtain ⟨⟨d, δ1⟩, q1, q⟩ := ob q
    obtain ⟨xs, q2, q⟩ := ob q
    cases q
    refine ⟨δ, [.val d], δ1, s, ?_, fun vs H1 p1 r1 => ?_⟩
    · show aCons (hVal ev) aNil δ = _
      unfold aCons hVal
      rw [q1]
      rfl
    · cases r1 with
      | cons r rr =>
        cases rr
        obtain ⟨a, zs, rfl, m, r⟩ := rp_lstD r q2
        exact ⟨a, zs, rfl, m.sq, k _ H1 _ p1 walks_enum ⟨m, r⟩⟩

/-! ### zip -/
def zipD : List D → List D → List D
  | d :: ds, e :: es => .tup [d, e] :: zipD ds es
  | _, _ => []
theorem zipD_length : ∀ (ds es : List D), (zipD ds es).length = min ds.length es.length
  | [], _ => by simp [zipD]
  | _ :: _, [] => by simp [zipD]
  | d :: ds, e :: es => by show (zipD ds es).length + 1 = _; rw [zipD_length ds es]; simp
theorem zipD_get : ∀ (ds es : List D) (i : Nat) (d e : D), ds[i]? = some d → es[i]? = some e → (zipD ds es)[i]? = some (.tup [d, e])
  | [], _, i, d, e, h, _ => by simp at h
  | _ :: _, [], i, d, e, _, h => by simp at h
  | a :: ds, b :: es, 0, d, e, h, h' => by cases h; cases h'; rfl
  | a :: ds, b :: es, i + 1, d, e, h, h' => by
    show (zipD ds es)[i]? = _
    exact zipD_get ds es i d e (by simpa using h) (by simpa using h')
theorem walks_zip {a b : Addr} {xs ys : List V} : Walks K (Itz K a b) (fun T H => (MLR K H T a xs ∧ RpA K H T xs ds) ∧ MLR K H T b ys ∧ RpA K H T ys es) (zipD ds es) where
  ev := fun T T' M H H' h e m w => ⟨⟨h.1.1.ev e m w, h.1.2.ev e m w⟩, h.2.1.ev e m w, h.2.2.ev e m w⟩
  go := fun T i H h hi => by
    rw [zipD_length] at hi
    obtain ⟨v, hv, _⟩ := h.1.2.get (show ds[i]? = some ds[i] by simp)
    obtain ⟨w, hw, _⟩ := h.2.2.get (show es[i]? = some es[i] by simp)
    exact ⟨xs, ys, v, w, h.1.1.sq, h.2.1.sq, hv, hw⟩
  yld := fun T i H x H' h al y hi => by
    obtain ⟨p, u, u', rfl, hp, rfl, y, y'⟩ := y
    obtain ⟨d, hd, r⟩ := h.1.2.getV (y xs h.1.1.sq)
    obtain ⟨d', hd', r'⟩ := h.2.2.getV (y' ys h.2.1.sq)
    exact ⟨Ev.new hp, _, zipD_get ds es i d d' hd hd', new_tup hp al (.cons r (.cons r' .nil))⟩
  stop := fun T i H h hi => by
    rw [zipD_length] at hi
    refine ⟨xs, ys, h.1.1.sq, h.2.1.sq, ?_⟩
    rw [h.1.2.length, h.2.2.length]
    omega
theorem walks_zipT {a b : Addr} {xs ys : List V} : Walks K (RZ.ItzT K a b) (fun T H => (MT K H T a xs ∧ RpA K H T xs ds) ∧ MT K H T b ys ∧ RpA K H T ys es) (zipD ds es) where
  ev := fun T T' M H H' h e m w => ⟨⟨h.1.1.ev e m w, h.1.2.ev e m w⟩, h.2.1.ev e m w, h.2.2.ev e m w⟩
  go := fun T i H h hi => by
    rw [zipD_length] at hi
    obtain ⟨v, hv, _⟩ := h.1.2.get (show ds[i]? = some ds[i] by simp)
    obtain ⟨w, hw, _⟩ := h.2.2.get (show es[i]? = some es[i] by simp)
    exact ⟨xs, ys, v, w, h.1.1.sq, h.2.1.sq, hv, hw⟩
  yld := fun T i H x H' h al y hi => by
    obtain ⟨p, u, u', rfl, hp, rfl, y, y'⟩ := y
    obtain ⟨d, hd, r⟩ := h.1.2.getV (y xs h.1.1.sq)
    obtain ⟨d', hd', r'⟩ := h.2.2.getV (y' ys h.2.1.sq)
    exact ⟨Ev.new hp, _, zipD_get ds es i d d' hd hd', new_tup hp al (.cons r (.cons r' .nil))⟩
  stop := fun T i H h hi => by
    rw [zipD_length] at hi
    refine ⟨xs, ys, h.1.1.sq, h.2.1.sq, ?_⟩
    rw [h.1.2.length, h.2.2.length]
    omega
def zip2 (a b : D) : Option (List D) := match lstD a, lstD b with
  | some xs, some ys => some (zipD xs ys)
  | _, _ => match a, b with
    | .tup xs, .tup ys => some (zipD xs ys)
    | _, _ => none
theorem zip2_inv {a b : D} {zs : List D} (h : zip2 a b = some zs) : (∃ xs ys, lstD a = some xs ∧ lstD b = some ys ∧ zs = zipD xs ys) ∨ ∃ xs ys, a = .tup xs ∧ b = .tup ys ∧ zs = zipD xs ys := by
  unfold zip2 at h
  split at h
  · rename_i xs ys h1 h2; cases h; exact .inl ⟨xs, ys, h1, h2, rfl⟩
  · split at h
    · rename_i xs ys _; cases h; exact .inr ⟨xs, ys, rfl, rfl, rfl⟩
    · cases h
def iZipD (ea eb : EX) : IX := fun δ => (ea δ).bind fun p => (eb p.2).bind fun q => (zip2 p.1 q.1).bind fun zs => some (zs, q.2)
theorem pdi_zip {p pos tpos : Pos} {elts : List Expr} {kk : Nat} {ea eb : EX} (hg : Gl X "zip") (hm : X.mg "zip" = none) (ha : PE X a (rd X.K S ea)) (hb : PE X b (rd X.K S eb))
    (hs : starEach [a, b] X.env = (false, eval a X.env) :: starEach [b] X.env := by rfl) (hs1 : starEach [b] X.env = (false, eval b X.env) :: starEach [] X.env := by rfl) (hpl : (backTo pos (starEach [b] X.env)).any (·.1) = false := by rfl) :
    PI X (.Tuple elts kk tpos) (.Call (.Name "zip" p) [a, b] [] pos) (rdI X.K S (iZipD ea eb)) :=
  piI (RZ.pi_zipA hg hm (pda_cons (ph_val ha) (pda_cons (ph_val hb) pda_nil hs1) hs) hs hpl) fun σ H R ⟨δ, ds, δe, s, q, k⟩ => by
    obtain ⟨⟨d, δ1⟩, q1, q⟩ := ob q
    obtain ⟨⟨d', δ2⟩, q2, q⟩ := ob q
    obtain ⟨zs, q3, q⟩ := ob q
    cases q
    refine ⟨δ, [.val d, .val d'], δ2, s, ?_, fun vs H1 p1 r1 => ?_⟩
    · show aCons (hVal ea) (aCons (hVal eb) aNil) δ = _
      unfold aCons hVal
      rw [q1]
      show ((aCons (hVal eb) aNil δ1).bind _) = _
      unfold aCons hVal
      rw [q2]
      rfl
    · cases r1 with
      | cons r rr =>
        cases rr with
        | cons r' rr =>
          cases rr
          rcases zip2_inv q3 with ⟨xs, ys, h1, h2, rfl⟩ | ⟨xs, ys, rfl, rfl, rfl⟩
          · obtain ⟨a1, vs1, rfl, m1, r1⟩ := rp_lstD r h1
            obtain ⟨a2, vs2, rfl, m2, r2⟩ := rp_lstD r' h2
            exact ⟨a1, a2, vs1, vs2, rfl, .inl ⟨m1.sq, m2.sq, k _ H1 _ p1 walks_zip ⟨⟨m1, r1⟩, m2, r2⟩⟩⟩
          · cases r with
            | tup m1 r1 =>
              cases r' with
              | tup m2 r2 => exact ⟨_, _, _, _, rfl, .inr ⟨m1.sq, m2.sq, k _ H1 _ p1 walks_zipT ⟨⟨m1, r1⟩, m2, r2⟩⟩⟩

/-! ### comprehensions -/
def wipeD (δ : DEnv) : List Nat → DEnv
  | [] => δ
  | v :: vs => (wipeD δ vs).set v none
def backD (δ0 δ : DEnv) : List Nat → DEnv
  | [] => δ
  | v :: vs => (backD δ0 δ vs).set v ((δ0[v]?).getD none)
theorem wipeD_len (δ : DEnv) : ∀ vs, (wipeD δ vs).length = δ.length
  | [] => rfl
  | v :: vs => by unfold wipeD; rw [List.length_set, wipeD_len δ vs]
theorem wipeD_in : ∀ (vs : List Nat) {s : Sl}, (wipeD δ vs)[i]? = some (some s) → i ∉ vs ∧ δ[i]? = some (some s)
  | [], s, h => ⟨by simp, h⟩
  | v :: vs, s, h => by
    unfold wipeD at h
    rcases set_get h with ⟨rfl, e⟩ | ⟨n, e⟩
    · cases e
    · obtain ⟨a, b⟩ := wipeD_in vs e
      exact ⟨by rw [List.mem_cons, not_or]; exact ⟨fun z => n z.symm, a⟩, b⟩
theorem wipeD_off : ∀ (vs : List Nat), i ∉ vs → (wipeD δ vs)[i]? = δ[i]?
  | [], _ => rfl
  | v :: vs, h => by
    rw [List.mem_cons, not_or] at h
    unfold wipeD
    rw [List.getElem?_set_ne (fun z => h.1 z.symm)]
    exact wipeD_off vs h.2
theorem wipe_off : ∀ (vs : List Nat), i ∉ vs → (wipe σ vs)[i]? = σ[i]?
  | [], _ => rfl
  | v :: vs, h => by
    rw [List.mem_cons, not_or] at h
    unfold wipe
    rw [List.getElem?_set_ne (fun z => h.1 z.symm)]
    exact wipe_off vs h.2
theorem backD_len (δ0 δ : DEnv) : ∀ vs, (backD δ0 δ vs).length = δ.length
  | [] => rfl
  | v :: vs => by unfold backD; rw [List.length_set, backD_len δ0 δ vs]
theorem backD_off {δ0 : DEnv} : ∀ (vs : List Nat), i ∉ vs → (backD δ0 δ vs)[i]? = δ[i]?
  | [], _ => rfl
  | v :: vs, h => by
    rw [List.mem_cons, not_or] at h
    unfold backD
    rw [List.getElem?_set_ne (fun z => h.1 z.symm)]
    exact backD_off vs h.2
theorem backD_in {δ0 : DEnv} : ∀ (vs : List Nat), i ∈ vs → i < δ.length → δ0.length = δ.length → (backD δ0 δ vs)[i]? = δ0[i]?
  | v :: vs, h, hl, e => by
    unfold backD
    by_cases n : v = i
    · subst n
      rw [List.getElem?_set_self (by rw [backD_len]; exact hl)]
      rw [List.getElem?_eq_getElem (by omega)]
      rfl
    · rw [List.getElem?_set_ne n]
      rcases List.mem_cons.mp h with z | z
      · exact absurd z.symm n
      · exact backD_in vs z hl e
theorem wipe_ext : ∀ (vs : List Nat) {σ σ' : L2.St}, σ'.length = σ.length → (∀ j, j ∉ vs → σ'[j]? = σ[j]?) → wipe σ' vs = wipe σ vs := fun vs σ σ' hl h => by
  apply List.ext_getElem?
  intro j
  by_cases hj : j ∈ vs
  · have g : ∀ (vs : List Nat) (τ : L2.St), j ∈ vs → (wipe τ vs)[j]? = if j < τ.length then some none else none := fun vs τ => by
      induction vs with
      | nil => intro h; simp at h
      | cons v vs ih =>
        intro h
        unfold wipe
        by_cases n : v = j
        · subst n
          by_cases hlt : v < τ.length
          · rw [if_pos hlt, List.getElem?_set_self (by rw [wipe_length]; exact hlt)]
          · rw [if_neg hlt, List.getElem?_eq_none (by rw [List.length_set, wipe_length]; omega)]
        · rw [List.getElem?_set_ne n]
          rcases List.mem_cons.mp h with z | z
          · exact absurd z.symm n
          · exact ih z
    rw [g vs σ' hj, g vs σ hj, hl]
  · rw [wipe_off vs hj, wipe_off vs hj, h j hj]
theorem wipe_wipe (vs : List Nat) (σ : L2.St) : wipe (wipe σ vs) vs = wipe σ vs := wipe_ext vs (wipe_length σ vs) fun j hj => wipe_off vs hj
theorem own_wipe {vs : List Nat} {x : Addr} (h : OwnAt (wipeD δ vs) (wipe σ vs) x) : OwnAt δ σ x := by
  obtain ⟨j, ⟨sl, e, o⟩, q⟩ := h
  obtain ⟨n, e'⟩ := wipeD_in vs e
  rw [wipe_off vs n] at q
  exact ⟨j, ⟨sl, e', o⟩, q⟩
theorem Sat.wipe (vs : List Nat) (s : Sat K S δ σ H) : Sat K S (wipeD δ vs) (wipe σ vs) H := by
  have w : Wid H (Sx S δ σ) (Sx S (wipeD δ vs) (L2.wipe σ vs)) := fun x h => .inl (h.elim .inl fun z => .inr (own_wipe z))
  refine ⟨by rw [wipeD_len, wipe_length]; exact s.len, s.alloc, fun j z e => ?_, fun j z e => ?_, fun j z a e q => ?_, fun j l a o o' q q' => ?_⟩
  · obtain ⟨n, e'⟩ := wipeD_in vs e
    obtain ⟨u, q, r⟩ := s.pure j z e'
    exact ⟨u, by rw [wipe_off vs n]; exact q, r.wid w⟩
  · have k : j ∉ vs ∧ (δ[j]? = some (some (.o z)) ∨ δ[j]? = some (some (.b z))) := by
      rcases e with e | e <;> obtain ⟨n, e'⟩ := wipeD_in vs e
      · exact ⟨n, .inl e'⟩
      · exact ⟨n, .inr e'⟩
    obtain ⟨u, q, r⟩ := s.own j z k.2
    exact ⟨u, by rw [wipe_off vs k.1]; exact q, r.wid w⟩
  · obtain ⟨n, e'⟩ := wipeD_in vs e
    rw [wipe_off vs n] at q
    exact s.off j z a e' q
  · obtain ⟨sl, e, ow⟩ := o
    obtain ⟨sl', e', ow'⟩ := o'
    obtain ⟨n, e1⟩ := wipeD_in vs e
    obtain ⟨n', e2⟩ := wipeD_in vs e'
    rw [wipe_off vs n] at q
    rw [wipe_off vs n'] at q'
    exact s.sep j l a ⟨sl, e1, ow⟩ ⟨sl', e2, ow'⟩ q q'
def noOwn (δ : DEnv) (vs : List Nat) : Bool := vs.all fun v => match δ[v]? with
  | some (some (.o _)) => false
  | some (some (.b _)) => false
  | _ => true
theorem noOwn_of {vs : List Nat} (h : noOwn δ vs = true) (hi : i ∈ vs) : ¬ isOwn δ i := fun ⟨sl, e, o⟩ => by
  have z := List.all_eq_true.mp h i hi
  cases sl <;> simp [e, Sl.own] at z o
def loopC (tx : TX) (bx : BX) (ev : EX) (vs : List Nat) : List D → DEnv → List D → Option (List D × DEnv)
  | [], δ, acc => some (acc, δ)
  | d :: ds, δ, acc => (tx d δ).bind fun δ1 => (bx δ1).bind fun p => match p.1 with
    | false => loopC tx bx ev vs ds (wipeD p.2 vs) acc
    | true => (ev p.2).bind fun q => if acc.length < lim then loopC tx bx ev vs ds (wipeD q.2 vs) (acc ++ [q.1]) else none
def oLc (ix : IX) (tx : TX) (bx : BX) (ev : EX) (vs : List Nat) : OX := fun δ => (ix δ).bind fun p => if noOwn p.2 vs then (loopC tx bx ev vs p.1 (wipeD p.2 vs) []).bind fun q => some (.lst q.1, backD p.2 q.2 vs) else none
/-- for any set of addresses -/
def exG (K : PySem.W.Frag) (tx : TX) (ws : List Nat) : TG := fun v σ H Q => ∃ S, rdG K S tx ws v σ H Q
def exT (K : PySem.W.Frag) (bx : BX) : TT := fun σ H Q => ∃ S, rdT K S bx σ H Q
def exE (K : PySem.W.Frag) (ev : EX) : TE := fun σ H Q => ∃ S, rd K S ev σ H Q
structure LcI (K : PySem.W.Frag) (S : Addr → Prop) (δ1 : DEnv) (σ : L2.St) (H1 : Hp) (vs : List Nat) (p : Addr) (δ : DEnv) (H : Hp) (acc : List V) (ds : List D) : Prop where
  sat : Sat K (fun b => S b ∨ b = p) δ (wipe σ vs) H
  lst : H p = some (.lst acc)
  rp : RpA K H (Sx (fun b => S b ∨ b = p) δ (wipe σ vs)) acc ds
  ev : Ev (OwnAt δ1 σ) H1 H
  sub : ∀ i, isOwn δ i → isOwn δ1 i ∧ i ∉ vs
  dom : ∀ i, i ∉ vs → (∃ s : Sl, δ1[i]? = some (some s)) → ∃ s : Sl, δ[i]? = some (some s)
  bor : ∀ (i : Nat) (c : Ct), i ∉ vs → δ1[i]? = some (some (.b c)) → ∃ c', δ[i]? = some (some (.b c'))
  al : ∀ a, H1 a ≠ none → H a ≠ none
variable {vs : List Nat} {p : Addr} {acc : List V} {dacc : List D}
theorem LcI.own (L : LcI K S δ1 σ H1 vs p δ H acc dacc) {x : Addr} (h : OwnAt δ (wipe σ vs) x) : OwnAt δ1 σ x := by
  obtain ⟨j, o, q⟩ := h
  obtain ⟨o1, n⟩ := L.sub j o
  rw [wipe_off vs n] at q
  exact ⟨j, o1, q⟩
theorem lc_start (s : Sat K S δ1 σ H1) (hn : H1 p = none) : LcI K S δ1 σ H1 vs p (wipeD δ1 vs) (upd H1 p (.lst [])) [] [] :=
  ⟨(s.wipe vs).more hn, upd_same, .nil, Ev.new hn, fun i ⟨sl, e, o⟩ => let ⟨n, e'⟩ := wipeD_in vs e; ⟨⟨sl, e', o⟩, n⟩, fun i n ⟨s, e⟩ => ⟨s, by rw [wipeD_off vs n]; exact e⟩, fun i c n e => ⟨c, by rw [wipeD_off vs n]; exact e⟩, upd_th⟩
/-- one turn: the targets are set, tests and item are told -/
theorem LcI.turn {d1 : DEnv} {d2 : DEnv} {τ : L2.St} {H2 H3 : Hp} (L : LcI K S δ1 σ H1 vs p δ H acc dacc) (hn : H1 p = none) (s1 : Sat K S δ1 σ H1) (ev0 : Ev (fun _ => False) H H2) (pg : PostS K (fun b => S b ∨ b = p) δ (wipe σ vs) H2 d1 τ H2) (of : Off vs (wipe σ vs) τ)
    (dm : ∀ i, i ∉ vs → d1[i]? = δ[i]?) (pe : PostE K (fun b => S b ∨ b = p) d1 τ H2 d2 H3) :
    wipe τ vs = wipe σ vs ∧ H3 p = some (.lst acc) ∧ LcI K S δ1 σ H1 vs p (wipeD d2 vs) H3 acc dacc ∧ (∀ {v d}, Rp K H3 (Sx (fun b => S b ∨ b = p) d2 τ) v d → Rp K H3 (Sx (fun b => S b ∨ b = p) (wipeD d2 vs) (wipe σ vs)) v d) ∧
    Ev (fun x => OwnAt δ (wipe σ vs) x ∨ (OwnAt d1 τ x)) H2 H3 := by
  have hw : wipe τ vs = wipe σ vs := by rw [wipe_ext vs of.len of.off, wipe_wipe]
  have nw : ∀ x, OwnAt d1 τ x → OwnAt δ (wipe σ vs) x ∨ H2 x = none := pg.new
  have noD : ∀ {x}, OwnAt d1 τ x → x ≠ p := fun {x} h e => by
    subst e
    rcases nw _ h with z | z
    · exact s1.ownThere (L.own z) hn
    · have := ev0 _ _ L.lst (fun z => z)
      rw [this] at z; cases z
  have h3 : H3 p = some (.lst acc) := pe.ev p _ (ev0 p _ L.lst fun z => z) fun z => noD z rfl
  have sw := pe.sat.wipe vs
  rw [hw] at sw
  have ow : ∀ {x}, OwnAt (wipeD d2 vs) (wipe σ vs) x → OwnAt d2 τ x := fun {x} h => own_wipe (by rw [hw]; exact h)
  have wd : ∀ {v d}, Rp K H3 (Sx (fun b => S b ∨ b = p) d2 τ) v d → Rp K H3 (Sx (fun b => S b ∨ b = p) (wipeD d2 vs) (wipe σ vs)) v d := fun {v d} r => r.wid fun x h => .inl (h.elim .inl fun z => .inr (ow z))
  refine ⟨hw, h3, ⟨sw, h3, ?_, (L.ev.trans ev0 fun _ z => z.elim).trans pe.ev fun x h => ?_, fun i h => ?_, fun i n h => ?_, fun i c n h => ?_, fun a h => pe.al a (ev_al ev0 a (L.al a h))⟩, wd, pe.ev.mono fun x h => .inl (.inr h)⟩
  · have r1 : RpA K H2 (Sx (fun b => S b ∨ b = p) δ (wipe σ vs)) acc dacc := L.rp.ev ev0 (fun _ z => z.elim) Wid.refl
    have r2 := pe.rpA (pg.rpA r1)
    exact r2.wid fun x h => .inl (h.elim .inl fun z => .inr (ow z))
  · rcases nw x h with z | z
    · exact .inl (L.own z)
    · exact .inr (none_back L.al (none_back (ev_al ev0) z))
  · obtain ⟨sl, e, o⟩ := h
    obtain ⟨n, e'⟩ := wipeD_in vs e
    obtain ⟨sl1, e1, o1⟩ := pe.sub i ⟨sl, e', o⟩
    rw [dm i n] at e1
    exact ⟨(L.sub i ⟨sl1, e1, o1⟩).1, n⟩
  · obtain ⟨s, e⟩ := L.dom i n h
    rw [← dm i n] at e
    obtain ⟨s', e'⟩ := pe.dom i ⟨s, e⟩
    exact ⟨s', by rw [wipeD_off vs n]; exact e'⟩
  · obtain ⟨c1, e⟩ := L.bor i c n h
    rw [← dm i n] at e
    obtain ⟨c2, e'⟩ := pe.bor i c1 e
    exact ⟨c2, by rw [wipeD_off vs n]; exact e'⟩
theorem LcI.push (L : LcI K S δ1 σ H1 vs p δ H acc dacc) (hn : H1 p = none) (s1 : Sat K S δ1 σ H1) (r : Rp K H (Sx (fun b => S b ∨ b = p) δ (wipe σ vs)) v d) : LcI K S δ1 σ H1 vs p δ (upd H p (.lst (acc ++ [v]))) (acc ++ [v]) (dacc ++ [d]) := by
  have hm : ∀ x, x = p → Sx (fun b => S b ∨ b = p) δ (wipe σ vs) x := fun x e => .inl (.inr e)
  refine ⟨L.sat.step upd_ev hm (fun x e z => s1.ownThere (L.own z) (by rw [e]; exact hn)) (fun a h => upd_th a (L.sat.alloc a h)), upd_same, (L.rp.ev upd_ev hm Wid.refl).append (.cons (Rp.ev upd_ev hm Wid.refl r) .nil), L.ev.trans upd_ev fun x e => .inr (by rw [e]; exact hn), L.sub, L.dom, L.bor, fun a h => upd_th a (L.al a h)⟩
theorem LcI.fin {δ0 : DEnv} {H0 : Hp} (L : LcI K S δ1 σ H1 vs p δ H acc dacc) (hn : H1 p = none) (s1 : Sat K S δ1 σ H1) (no : noOwn δ1 vs = true) (P : PostE K S δ0 σ H0 δ1 H1) :
    PostE K S δ0 σ H0 (backD δ1 δ vs) H ∧ Sat K (fun b => S b ∨ b = p) (backD δ1 δ vs) σ H ∧ CRp K H (Sx (fun b => S b ∨ b = p) (backD δ1 δ vs) σ) p (.lst dacc) := by
  have hl : δ.length = σ.length := by rw [L.sat.len, wipe_length]
  have hl1 : δ1.length = δ.length := by rw [hl]; exact s1.len
  have slot : ∀ {i : Nat} {s : Sl}, (backD δ1 δ vs)[i]? = some (some s) → (i ∈ vs ∧ δ1[i]? = some (some s)) ∨ (i ∉ vs ∧ δ[i]? = some (some s)) := fun {i s} e => by
    have lt : i < δ.length := by have := (List.getElem?_eq_some_iff.mp e).1; rw [backD_len] at this; exact this
    by_cases n : i ∈ vs
    · rw [backD_in vs n lt hl1] at e; exact .inl ⟨n, e⟩
    · rw [backD_off vs n] at e; exact .inr ⟨n, e⟩
  have owni : ∀ {i : Nat}, isOwn (backD δ1 δ vs) i → isOwn δ i ∧ i ∉ vs := fun {i} ⟨sl, e, o⟩ => by
    rcases slot e with ⟨n, e'⟩ | ⟨n, e'⟩
    · exact absurd ⟨sl, e', o⟩ (noOwn_of no n)
    · exact ⟨⟨sl, e', o⟩, n⟩
  have own : ∀ {x : Addr}, OwnAt (backD δ1 δ vs) σ x → OwnAt δ (wipe σ vs) x := fun {x} ⟨i, o, q⟩ => by
    obtain ⟨o', n⟩ := owni o
    exact ⟨i, o', by rw [wipe_off vs n]; exact q⟩
  have w : Wid H (Sx (fun b => S b ∨ b = p) δ (wipe σ vs)) (Sx (fun b => S b ∨ b = p) (backD δ1 δ vs) σ) := fun x h => .inl (h.elim .inl fun z => .inr (own z))
  have w1 : Wid H1 (Sx S δ1 σ) (Sx (fun b => S b ∨ b = p) (backD δ1 δ vs) σ) := fun x h => by
    rcases h with (h | h) | h
    · exact .inl (.inl h)
    · exact .inr (by rw [h]; exact hn)
    · exact .inl (.inr (L.own (own h)))
  have sat : Sat K (fun b => S b ∨ b = p) (backD δ1 δ vs) σ H := by
    refine ⟨by rw [backD_len]; exact hl, L.sat.alloc, fun i z e => ?_, fun i z e => ?_, fun i z a e q => ?_, fun i j a o o' q q' => ?_⟩
    · rcases slot e with ⟨n, e'⟩ | ⟨n, e'⟩
      · obtain ⟨u, q, r⟩ := s1.pure i z e'
        exact ⟨u, q, r.ev L.ev (fun _ h => .inr h) w1⟩
      · obtain ⟨u, q, r⟩ := L.sat.pure i z e'
        rw [wipe_off vs n] at q
        exact ⟨u, q, r.wid w⟩
    · have k : i ∉ vs ∧ (δ[i]? = some (some (.o z)) ∨ δ[i]? = some (some (.b z))) := by
        rcases e with e | e <;> rcases slot e with ⟨n, e'⟩ | ⟨n, e'⟩
        · exact absurd ⟨_, e', rfl⟩ (noOwn_of no n)
        · exact ⟨n, .inl e'⟩
        · exact absurd ⟨_, e', rfl⟩ (noOwn_of no n)
        · exact ⟨n, .inr e'⟩
      obtain ⟨u, q, r⟩ := L.sat.own i z k.2
      rw [wipe_off vs k.1] at q
      exact ⟨u, q, r.wid w⟩
    · rcases slot e with ⟨n, e'⟩ | ⟨n, e'⟩
      · exact absurd ⟨_, e', rfl⟩ (noOwn_of no n)
      · exact L.sat.off i z a e' (by rw [wipe_off vs n]; exact q)
    · obtain ⟨o1, n⟩ := owni o
      obtain ⟨o2, n'⟩ := owni o'
      exact L.sat.sep i j a o1 o2 (by rw [wipe_off vs n]; exact q) (by rw [wipe_off vs n']; exact q')
  refine ⟨P.trans ⟨sat.less fun a h => .inl h, L.ev, fun i o => (L.sub i (owni o).1).1, fun i ⟨s, e⟩ => ?_, fun i c e => ?_, L.al⟩, sat, .lst L.lst (L.rp.wid w)⟩
  · by_cases n : i ∈ vs
    · exact ⟨s, by rw [backD_in vs n (by rw [← hl1]; exact (List.getElem?_eq_some_iff.mp e).1) hl1]; exact e⟩
    · obtain ⟨s', e'⟩ := L.dom i n ⟨s, e⟩
      exact ⟨s', by rw [backD_off vs n]; exact e'⟩
  · by_cases n : i ∈ vs
    · exact absurd ⟨_, e, rfl⟩ (noOwn_of no n)
    · obtain ⟨c', e'⟩ := L.bor i c n e
      exact ⟨c', by rw [backD_off vs n]; exact e'⟩
/-- a target sets its own slots alone -/
def TgOk (tx : TX) (vs : List Nat) : Prop := ∀ d δ δ', tx d δ = some δ' → ∀ i, i ∉ vs → δ'[i]? = δ[i]?
theorem rdO_lc {ix : IX} {tx : TX} {bx : BX} {ev : EX} {ws : List Nat} {Q : VK} (hw : ∀ i ∈ ws, i ∈ vs) (ht : TgOk tx vs) (h : rdO K S (oLc ix tx bx ev vs) σ H Q) : tLc (rdI K S ix) (exG K tx ws) (exT K bx) (exE K ev) vs σ H Q := by
  obtain ⟨δ, c, δe, s, q, k⟩ := h
  obtain ⟨⟨ds, δ1⟩, q1, q2⟩ := ob q
  have q2 : (if noOwn δ1 vs then (loopC tx bx ev vs ds (wipeD δ1 vs) []).bind fun q => some (Ct.lst q.1, backD δ1 q.2 vs) else none) = some (c, δe) := q2
  split at q2
  case isFalse => cases q2
  rename_i no
  obtain ⟨⟨zs, δz⟩, q3, q4⟩ := ob q2
  cases q4
  refine ⟨δ, ds, δ1, s, q1, fun J H1 src P1 W hsrc p hn => ?_⟩
  have s1 := P1.sat
  have src0 : src (Sx (fun b => S b ∨ b = p) (wipeD δ1 vs) (wipe σ vs)) (upd H1 p (.lst [])) := W.ev _ _ _ _ _ hsrc (Ev.new (M := fun _ => False) hn) (fun _ z => z.elim) fun x h => by
    rcases h with (h | h) | h
    · exact .inl (.inl h)
    · exact .inr (by rw [h]; exact hn)
    · exact .inl (.inr (own_wipe h))
  refine ⟨fun i m H => m = ds.length - i ∧ i ≤ ds.length ∧ ∃ δ acc dacc, LcI K S δ1 σ H1 vs p δ H acc dacc ∧ src (Sx (fun b => S b ∨ b = p) δ (wipe σ vs)) H ∧ loopC tx bx ev vs (ds.drop i) δ dacc = some (zs, δz), ⟨_, rfl, Nat.zero_le _, _, _, _, lc_start s1 hn, src0, q3⟩, ?_⟩
  rintro i m H2 ⟨rfl, hi, δ2, acc, dacc, L, src2, e2⟩
  by_cases hlt : i < ds.length
  · refine .inr ⟨W.go _ i H2 src2 hlt, fun H3 => ∃ δ acc dacc, LcI K S δ1 σ H1 vs p δ H3 acc dacc ∧ src (Sx (fun b => S b ∨ b = p) δ (wipe σ vs)) H3 ∧ loopC tx bx ev vs (ds.drop (i + 1)) δ dacc = some (zs, δz), fun H3 h3 => ⟨ds.length - (i + 1), by omega, rfl, hlt, h3⟩, fun x H3 y => ?_⟩
    obtain ⟨ev0, d, hd, rx⟩ := W.yld _ i H2 x H3 src2 (fun a z => L.sat.there z) y hlt
    have hdrop : ds.drop i = d :: ds.drop (i + 1) := by
      obtain ⟨h1, h2⟩ := List.getElem?_eq_some_iff.mp hd
      rw [← h2]
      exact List.drop_eq_getElem_cons h1
    rw [hdrop] at e2
    obtain ⟨δ3, e3, e4⟩ := ob e2
    obtain ⟨⟨bb, δ4⟩, e5, e6⟩ := ob e4
    have sg := L.sat.grow ev0
    have srcg := W.ev _ _ _ _ _ src2 ev0 (fun _ z => z.elim) Wid.refl
    refine ⟨fun b => S b ∨ b = p, δ2, d, δ3, sg, rx, e3, fun τ pg of => ?_⟩
    have of' : Off vs (wipe σ vs) τ := ⟨of.len, fun j hj => of.off j fun z => hj (hw j z)⟩
    have dm := ht d δ2 δ3 e3
    have hwi : wipe τ vs = wipe σ vs := by rw [wipe_ext vs of'.len of'.off, wipe_wipe]
    refine ⟨hwi, fun b => S b ∨ b = p, δ3, bb, δ4, pg.sat, e5, fun H4 pt => ?_⟩
    have srcT : ∀ {d2 : DEnv} {H5 : Hp}, PostE K (fun b => S b ∨ b = p) δ3 τ H3 d2 H5 → src (Sx (fun b => S b ∨ b = p) (wipeD d2 vs) (wipe σ vs)) H5 := fun {d2 H5} pe => by
      have a1 := W.ev _ _ _ _ _ srcg pg.ev (fun _ z => .inr z) pg.wid
      have a2 := W.ev _ _ _ _ _ a1 pe.ev (fun _ z => .inr z) (PostS.ofE pe).wid
      refine W.ev _ _ (fun _ => False) _ _ a2 Ev.refl (fun _ z => z.elim) fun x h => .inl (h.elim .inl fun z => .inr (own_wipe (vs := vs) (by rw [hwi]; exact z)))
    cases bb with
    | false =>
      obtain ⟨_, _, L4, _, _⟩ := L.turn hn s1 ev0 pg of' dm pt
      exact ⟨_, _, _, L4, srcT pt, e6⟩
    | true =>
      obtain ⟨⟨dv, δ5⟩, e7, e8⟩ := ob e6
      have e8 : (if dacc.length < lim then loopC tx bx ev vs (ds.drop (i + 1)) (wipeD δ5 vs) (dacc ++ [dv]) else none) = some (zs, δz) := e8
      split at e8
      case isFalse => cases e8
      rename_i hlim
      refine ⟨fun b => S b ∨ b = p, δ4, dv, δ5, pt.sat, e7, fun v H5 pe r5 => ?_⟩
      have pe' := pt.trans pe
      obtain ⟨_, h5, L5, wd, _⟩ := L.turn hn s1 ev0 pg of' dm pe'
      refine ⟨acc, h5, by rw [L.rp.length]; exact lim_lt hlim, _, _, _, L5.push hn s1 (wd r5), ?_, e8⟩
      exact W.ev _ _ _ _ _ (srcT pe') (upd_ev (a := p)) (fun x e => .inl (.inr e)) Wid.refl
  · have e : i = ds.length := by omega
    subst e
    rw [List.drop_length] at e2
    cases e2
    obtain ⟨F1, F2, F3⟩ := L.fin hn s1 no P1
    exact .inl ⟨W.stop _ _ H2 src2 (Nat.le_refl _), k p H2 (none_back P1.al hn) F1 F2 F3⟩
end
end DL

/-! DLj: the rules of comprehensions; defs of the module by data. -/
namespace DL
open PySem PySem.Spec PyProof.Rows L2

section
variable {K : PySem.W.Frag} {S T : Addr → Prop} {δ δ1 δ2 δ' : DEnv} {σ σ1 σ2 σ' : L2.St} {H H1 H2 H' : Hp} {v w : V} {d : D} {ds es : List D} {DD : Ends} {f : Fl}
variable {X : Cx} {e a b c : Expr} {pos p2 : Pos} {i j l n : Nat} {x y z : Str} {px py pz : Pos} {vs ws : List Nat}

/-! ### comprehensions -/
theorem tg_name (h : i ∈ vs) : TgOk (txN i) vs := fun d δ δ' e j hj => by
  unfold txN at e
  split at e
  · cases e
  · cases e; exact List.getElem?_set_ne (fun z => hj (by rw [← z]; exact h))
def TgsOk (tx : TXs) (vs : List Nat) : Prop := ∀ d δ δ', tx d δ = some δ' → ∀ i, i ∉ vs → δ'[i]? = δ[i]?
theorem tgs_nil : TgsOk txsNil vs := fun d δ δ' e j hj => by
  cases d <;> cases e
  rfl
theorem tgs_cons {t : TX} {u : TXs} (h1 : TgOk t vs) (h2 : TgsOk u vs) : TgsOk (txsCons t u) vs := fun d δ δ' e j hj => by
  cases d with
  | nil => cases e
  | cons d ds =>
    obtain ⟨δ1, q1, q2⟩ := ob e
    rw [h2 _ _ _ q2 j hj, h1 _ _ _ q1 j hj]
theorem tg_tup {u : TXs} (h : TgsOk u vs) : TgOk (txT n u) vs := fun d δ δ' e j hj => by
  cases d <;> try (cases e; done)
  all_goals
    rename_i ds
    have e' : (if ds.length = n then u ds δ else none) = some δ' := e
    split at e'
    · exact h _ _ _ e' j hj
    · cases e'
def bYes : BX := fun δ => some (true, δ)
theorem ptI' {X : Cx} {e : List Expr} {t t' : TT} (h : PTs X e t) (i : ∀ σ H Q, t' σ H Q → t σ H Q) : PTs X e t' := ⟨fun pins s σ H Q I q => h.run pins s σ H Q I (i σ H Q q)⟩
theorem ptd_nil : PTs X [] (rdT X.K S bYes) := ptI' pts_nil fun σ H Q ⟨δ, d, δ', s, q, k⟩ => by cases q; exact k H (PostE.refl s)
theorem ptd_one {bx : BX} (h : PT X c (rdT X.K S bx)) : PTs X [c] (rdT X.K S bx) := pts_one h
section
variable {elt tg iter : Expr} {ifs : List Expr} {scope : Scope} {own : List (Str × Nat)} {ix : IX} {tx : TX} {bx : BX} {ev : EX}
/-- the parts of a comprehension's block -/
structure Blk (X : Cx) (scope : Scope) (tg elt : Expr) (ifs : List Expr) (tx : TX) (ws : List Nat) (bx : BX) (ev : EX) : Prop where
  tg : ∀ (S : Addr → Prop) (s : Shared) (H : Hp) (C : Addr) (cl : List (Str × Addr)) (fp : List Addr), PG (X.blk s H scope (compEnvC scope cl C X.env) fp) tg (rdG X.K S tx ws)
  ts : ∀ (S : Addr → Prop) (s : Shared) (H : Hp) (C : Addr) (cl : List (Str × Addr)) (fp : List Addr), PTs (X.blk s H scope (compEnvC scope cl C X.env) fp) ifs (rdT X.K S bx)
  el : ∀ (S : Addr → Prop) (s : Shared) (H : Hp) (C : Addr) (cl : List (Str × Addr)) (fp : List Addr), PE (X.blk s H scope (compEnvC scope cl C X.env) fp) elt (rd X.K S ev)
theorem pod_lc (hc : X.calm = true) (hN : X.N.Nodup) (hi : PI X tg iter (rdI X.K S ix)) (ok : BlkOk X.N X.env.scope scope own) (B : Blk X scope tg elt ifs tx ws bx ev) (hw : ∀ i ∈ ws, i ∈ own.map (·.2)) (ht : TgOk tx (own.map (·.2)))
    (hs : ∀ x, foldedSetIterable iter X.env x = pure x := by intro _; rfl) : PE X (.ListComp elt [⟨tg, iter, ifs, 0⟩] scope pos) (rdO X.K S (oLc ix tx bx ev (own.map (·.2)))) :=
  peI (pe_lc (g := exG X.K tx ws) (tt := exT X.K bx) (te := exE X.K ev) hc hN hi ok (fun s H C cl fp => ⟨fun pins s' σ H' v u Q I r ⟨S, q⟩ => (B.tg S s H C cl fp).run pins s' σ H' v u Q I r q⟩)
    (fun s H C cl fp => ⟨fun pins s' σ H' Q I ⟨S, q⟩ => (B.ts S s H C cl fp).run pins s' σ H' Q I q⟩) (fun s H C cl fp => ⟨fun pins s' σ H' Q I ⟨S, q⟩ => (B.el S s H C cl fp).run pins s' σ H' Q I q⟩) hs) fun σ H Q h => rdO_lc hw ht h
/-- name = [..] on one line -/
theorem psd_setLc (hc : X.calm = true) (hN : X.N.Nodup) (hy : X.N[i]? = some y) (hyl : X.env.scope.names.lookup y = some .local)
    (hsw : swapsWith (.ListComp elt [⟨tg, iter, ifs, 0⟩] scope p2) (some (.Name y py)) pos.line X.env = pure true) (hi : PI X tg iter (rdI X.K S ix)) (ok : BlkOk X.N X.env.scope scope own) (B : Blk X scope tg elt ifs tx ws bx ev) (hw : ∀ i ∈ ws, i ∈ own.map (·.2)) (ht : TgOk tx (own.map (·.2)))
    (hs : ∀ x, foldedSetIterable iter X.env x = pure x := by intro _; rfl) : PS X (.Assign [.Name y py] (.ListComp elt [⟨tg, iter, ifs, 0⟩] scope p2) pos) (rdS X.K S (sSetO i (oLc ix tx bx ev (own.map (·.2))))) :=
  psI (ps_setLc (g := exG X.K tx ws) (tt := exT X.K bx) (te := exE X.K ev) hc hN hy hyl hsw hi ok (fun s H C cl fp => ⟨fun pins s' σ H' v u Q I r ⟨S, q⟩ => (B.tg S s H C cl fp).run pins s' σ H' v u Q I r q⟩)
    (fun s H C cl fp => ⟨fun pins s' σ H' Q I ⟨S, q⟩ => (B.ts S s H C cl fp).run pins s' σ H' Q I q⟩) (fun s H C cl fp => ⟨fun pins s' σ H' Q I ⟨S, q⟩ => (B.el S s H C cl fp).run pins s' σ H' Q I q⟩) hs) fun DD σ H h => rdO_lc hw ht (rdS_setO h)
end

/-! ### defs -/
/-- a def's promise where no text is being written -/
structure FnG (P : Program) (w : World) (K : PySem.W.Frag) (mg : Str → Option Value) (base : Heap) (k : Nat) (f : Addr) (fd : FuncData) (ps : List Str) (sp : Sp) : Prop where
  len : ∀ vs H Q E, sp vs H Q E → vs.length = ps.length
  go : ∀ (A : Around), A.guards = some [] → Room k A → ∀ (outer : List Env) (s : Shared) (H : Hp) (args : Args) (us : List Value) (vs : List V) (Q : VK) (E : XK), Env0 P w K mg base A outer s H → BindsTo s fd args (ps.zip us) → Vals vs us → sp vs H Q E →
    codeAny (model P w) A (.call (.ref f) args) (CR L2.CX0 outer P w H s Q E) s
theorem FnG.mono {P : Program} {w : World} {K : PySem.W.Frag} {mg : Str → Option Value} {base : Heap} {k k' : Nat} {f : Addr} {fd : FuncData} {ps : List Str} {sp : Sp} (F : FnG P w K mg base k f fd ps sp) (h : k ≤ k') : FnG P w K mg base k' f fd ps sp :=
  ⟨F.len, fun A hg hr => F.go A hg (hr.mono h)⟩
/-- values in, a value out -/
def spV (n : Nat) (K : PySem.W.Frag) (F : List D → Option D) : Sp := fun vs H Q E => vs.length = n ∧ ∃ (T : Addr → Prop) (ds : List D) (d : D), (∀ a, T a → H a ≠ none) ∧ RpA K H T vs ds ∧ F ds = some d ∧ ∀ v H', Ev (fun _ => False) H H' → Rp K H' T v d → Q v H'
/-- .. a new object of the caller's own out -/
def spO (n : Nat) (K : PySem.W.Frag) (F : List D → Option Ct) : Sp := fun vs H Q E => vs.length = n ∧ ∃ (T : Addr → Prop) (ds : List D) (c : Ct), (∀ a, T a → H a ≠ none) ∧ RpA K H T vs ds ∧ F ds = some c ∧ ∀ a H', H a = none → Ev (fun _ => False) H H' → CRp K H' (fun b => T b ∨ b = a) a c → Q (.ref a) H'
/-- the first argument is an object that the def changes -/
def spR (n : Nat) (K : PySem.W.Frag) (F : Ct → List D → Option (D × Ct)) : Sp := fun vs H Q E => vs.length = n ∧ ∃ (T : Addr → Prop) (a : Addr) (ws : List V) (c : Ct) (ds : List D) (d : D) (c' : Ct), vs = .ref a :: ws ∧ (∀ a, T a → H a ≠ none) ∧ T a ∧ CRp K H T a c ∧ RpA K H T ws ds ∧ F c ds = some (d, c') ∧
  ∀ v H', Ev (· = a) H H' → (∀ x, H x ≠ none → H' x ≠ none) → CRp K H' T a c' → Rp K H' T v d → Q v H'
/-- a def that may be called by its name -/
structure Gal (P : Program) (w : World) (K : PySem.W.Frag) (mg : Str → Option Value) (base : Heap) (k : Nat) (x : Str) (sp : Sp) : Prop where
  ex : ∃ (f : Addr) (fd : FuncData) (ps : List Str), FnG P w K mg base k f fd ps sp ∧ mg x = some (.ref f) ∧ PySem.W.keepIn K (.ref f) = true ∧ Binds K fd ps []
theorem Gal.mono {P : Program} {w : World} {K : PySem.W.Frag} {mg : Str → Option Value} {base : Heap} {k k' : Nat} {sp : Sp} (F : Gal P w K mg base k x sp) (h : k ≤ k') : Gal P w K mg base k' x sp :=
  let ⟨f, fd, ps, F, r⟩ := F.ex; ⟨f, fd, ps, F.mono h, r⟩
section
variable {k : Nat} {sp : Sp} {t : TA} {ar : List Expr} {p : Pos}
theorem gal_run {pins : List (Addr × Obj)} {s : Shared} {Q : VK} {us : List Value} {vs : List V} {g : Addr} {fd : FuncData} {ps : List Str} (F : FnG X.prog X.w X.K X.mg X.base k g fd ps sp) (hG : X.A.guards = some []) (hr : Room k X.A) (hb : Binds X.K fd ps []) (I : Inv X pins σ H s) (r : Vals vs us) (h : sp vs H Q L2.E0) :
    wpAny (model X.prog X.w) X.A (call (.ref g) us) (EP X pins σ Q) X.xe s := by
  have hl : (us ++ []).length = ps.length := by rw [List.append_nil, ← r.length]; exact F.len _ _ _ _ h
  have hbt := hb s us I.kIn hl
  rw [List.append_nil] at hbt
  have key := F.go X.A hG hr X.stack s H ⟨us, []⟩ us vs Q L2.E0 I.env0 hbt r h
  refine wpAny_call (codeAny_mono key ?_)
  intro res s' hres
  match res, hres with
  | .error e, hres => exact (show False from hres).elim
  | .ok (.ret u), hres => exact I.after hres
  | .ok .next, hres => exact (show False from hres).elim
  | .ok .brk, hres => exact (show False from hres).elim
  | .ok .cont, hres => exact (show False from hres).elim
def tGal (sp : Sp) (t : TA) : TE := fun σ H Q => t σ H fun vs H1 => sp vs H1 Q L2.E0
theorem pe_gal (G : Gal X.prog X.w X.K X.mg X.base k x sp) (hG : X.A.guards = some []) (hr : Room k X.A) (hg : Gl X x) (ha : PA X (e :: ar) t) (hdb : (x == ("__debug__" : Str)) = false := by decide) (hst : starEach (e :: ar) X.env = (false, eval e X.env) :: starEach ar X.env := by rfl) (hpl : (backTo pos (starEach ar X.env)).any (·.1) = false := by rfl) :
    PE X (.Call (.Name x p) (e :: ar) [] pos) (tGal sp t) := by
  obtain ⟨g, fd, ps, F, hm, hk, hb⟩ := G.ex
  exact ⟨fun pins s σ H Q I h => wpAny_Call_Name_kw (ld_glob I hg hm (PySem.W.callWith_K (h₀ := X.base) I.ok.mod.kin hk (thn (ha.run pos pins s σ H _ I h) fun us s1 ⟨vs, H1, I1, r, q⟩ => ⟨I1.kIn, gal_run F hG hr hb I1 r q⟩) hst hpl) hdb)⟩
/-- rows of values alone -/
def eArgs (t : MX) : DEnv → Option (List D × DEnv) := fun δ => (t δ).bind fun p => (dsOf p.1).bind fun ds => some (ds, p.2)
where dsOf : List Sl → Option (List D)
  | [] => some []
  | .p d :: r => (dsOf r).bind fun ds => some (d :: ds)
  | _ => none
theorem dsOf_rp {xs : List Sl} {zs : List V} {as : List Addr} (m : MOk K H T zs xs as) : ∀ {ds : List D}, eArgs.dsOf xs = some ds → RpA K H T zs ds ∧ as = [] := by
  induction m with
  | nil => intro ds h; cases h; exact ⟨.nil, rfl⟩
  | p r _ ih =>
    intro ds h
    obtain ⟨ds', h1, h2⟩ := ob h
    cases h2
    obtain ⟨r', e⟩ := ih h1
    exact ⟨.cons r r', e⟩
  | o r _ ih => intro ds h; cases h
def eFn (F : List D → Option D) (t : MX) : EX := fun δ => (eArgs t δ).bind fun p => (F p.1).bind fun d => some (d, p.2)
def oFn (F : List D → Option Ct) (t : MX) : OX := fun δ => (eArgs t δ).bind fun p => (F p.1).bind fun d => some (d, p.2)
theorem mlen_nil : ∀ δ q, mNil δ = some q → q.1.length = 0 := fun δ q h => by cases h; rfl
theorem mlen_p {ev : EX} {t : MX} (h : ∀ δ q, t δ = some q → q.1.length = n) : ∀ δ q, mP ev t δ = some q → q.1.length = n + 1 := fun δ q e => by
  obtain ⟨_, _, e⟩ := ob e
  obtain ⟨z, e1, e2⟩ := ob e
  cases e2
  simp [h _ _ e1]
theorem eArgs_inv {mx : MX} {r : List D × DEnv} (h : eArgs mx δ = some r) : ∃ xs, mx δ = some (xs, r.2) ∧ eArgs.dsOf xs = some r.1 := by
  obtain ⟨⟨xs, δ2⟩, q3, q4⟩ := ob h
  obtain ⟨zs, q5, q6⟩ := ob q4
  cases q6
  exact ⟨xs, q3, q5⟩
theorem wid_nil {as : List Addr} (e : as = []) : Wid H (Sx (fun b => S b ∨ b ∈ as) δ σ) (Sx S δ σ) := fun z h => .inl (h.elim (fun h => .inl (.inl h)) .inr)
theorem pd_gal {mx : MX} {F : List D → Option D} (G : Gal X.prog X.w X.K X.mg X.base k x (spV n X.K F)) (hG : X.A.guards = some []) (hr : Room k X.A) (hg : Gl X x) (ha : PA X (e :: ar) (rdM X.K S mx)) (hlen : ∀ δ q, mx δ = some q → q.1.length = n)
    (hdb : (x == ("__debug__" : Str)) = false := by decide) (hst : starEach (e :: ar) X.env = (false, eval e X.env) :: starEach ar X.env := by rfl) (hpl : (backTo pos (starEach ar X.env)).any (·.1) = false := by rfl) : PE X (.Call (.Name x p) (e :: ar) [] pos) (rd X.K S (eFn F mx)) :=
  peI (pe_gal G hG hr hg ha hdb hst hpl) fun σ H Q ⟨δ, d, δe, s, q, kk⟩ => by
    obtain ⟨r1, q1, q⟩ := ob q
    obtain ⟨d', q2, q⟩ := ob q
    cases q
    obtain ⟨xs, q3, q5⟩ := eArgs_inv q1
    refine ⟨δ, xs, _, s, q3, fun vs as H1 p1 s1 nd fr m => ?_⟩
    obtain ⟨r, e0⟩ := dsOf_rp m q5
    exact ⟨by rw [m.length]; exact hlen _ _ q3, Sx S r1.2 σ, r1.1, _, fun a h => p1.sat.there h, r.wid (wid_nil e0), q2, fun v H2 ev rv => kk v H2 (p1.grow ev) rv⟩
/-- a new object elsewhere -/
theorem Sat.add {a : Addr} (s : Sat K S δ σ H) (hn : H a = none) (ev : Ev (fun _ => False) H H') (th : H' a ≠ none) : Sat K (fun b => S b ∨ b = a) δ σ H' := by
  have w : Wid H (Sx S δ σ) (Sx (fun b => S b ∨ b = a) δ σ) := fun z h => by
    rcases h with (h | h) | h
    · exact .inl (.inl h)
    · exact .inr (by rw [h]; exact hn)
    · exact .inl (.inr h)
  refine ⟨s.len, fun b h => h.elim (fun h => ev_al ev b (s.alloc b h)) fun h => by rw [h]; exact th, fun i d h => ?_, fun i c h => ?_, fun i c b h q z => ?_, s.sep⟩
  · obtain ⟨v, q, r⟩ := s.pure i d h
    exact ⟨v, q, r.ev ev (fun _ z => z.elim) w⟩
  · obtain ⟨v, q, r⟩ := s.own i c h
    exact ⟨v, q, r.ev ev (fun _ z => z.elim) w fun z => z⟩
  · rcases z with z | z
    · exact s.off i c b h q z
    · subst z
      obtain ⟨b', q', r⟩ := s.own i c (.inl h)
      rw [q] at q'; cases q'
      exact r.there hn
theorem po_gal {mx : MX} {F : List D → Option Ct} (G : Gal X.prog X.w X.K X.mg X.base k x (spO n X.K F)) (hG : X.A.guards = some []) (hr : Room k X.A) (hg : Gl X x) (ha : PA X (e :: ar) (rdM X.K S mx)) (hlen : ∀ δ q, mx δ = some q → q.1.length = n)
    (hdb : (x == ("__debug__" : Str)) = false := by decide) (hst : starEach (e :: ar) X.env = (false, eval e X.env) :: starEach ar X.env := by rfl) (hpl : (backTo pos (starEach ar X.env)).any (·.1) = false := by rfl) : PE X (.Call (.Name x p) (e :: ar) [] pos) (rdO X.K S (oFn F mx)) :=
  peI (pe_gal G hG hr hg ha hdb hst hpl) fun σ H Q ⟨δ, d, δe, s, q, kk⟩ => by
    obtain ⟨r1, q1, q⟩ := ob q
    obtain ⟨d', q2, q⟩ := ob q
    cases q
    obtain ⟨xs, q3, q5⟩ := eArgs_inv q1
    refine ⟨δ, xs, _, s, q3, fun vs as H1 p1 s1 nd fr m => ?_⟩
    obtain ⟨r, e0⟩ := dsOf_rp m q5
    refine ⟨by rw [m.length]; exact hlen _ _ q3, Sx S r1.2 σ, r1.1, _, fun a h => p1.sat.there h, r.wid (wid_nil e0), q2, fun a H2 hn ev rv => ?_⟩
    refine kk a H2 (none_back p1.al hn) (p1.grow ev) (p1.sat.add hn ev rv.there) (rv.wid fun z h => .inl ?_)
    rcases h with (h | h) | h
    · exact .inl (.inl h)
    · exact .inr h
    · exact .inl (.inr h)
/-- the first argument, by its slot; the others as values -/
def eRef (F : Ct → List D → Option (D × Ct)) (i : Nat) (t : MX) : EX := fun δ => (ownC δ i).bind fun _ => (eArgs t δ).bind fun p => (ownC p.2 i).bind fun c => (F c p.1).bind fun q => some (q.1, putC p.2 i q.2)
theorem pd_ref {mx : MX} {F : Ct → List D → Option (D × Ct)} (G : Gal X.prog X.w X.K X.mg X.base k x (spR (n + 1) X.K F)) (hG : X.A.guards = some []) (hr : Room k X.A) (hg : Gl X x) (he : PE X e (tVar i)) (ha : PA X ar (rdM X.K S mx)) (hlen : ∀ δ q, mx δ = some q → q.1.length = n)
    (hdb : (x == ("__debug__" : Str)) = false := by decide) (hst : starEach (e :: ar) X.env = (false, eval e X.env) :: starEach ar X.env := by rfl) (hpl : (backTo pos (starEach ar X.env)).any (·.1) = false := by rfl) : PE X (.Call (.Name x p) (e :: ar) [] pos) (rd X.K S (eRef F i mx)) :=
  peI (pe_gal G hG hr hg (pa_cons he ha hst) hdb hst hpl) fun σ H Q ⟨δ, d, δe, s, q, kk⟩ => by
    obtain ⟨c0, q0, q⟩ := ob q
    obtain ⟨r1, q1, q⟩ := ob q
    obtain ⟨c, qc, q⟩ := ob q
    obtain ⟨z, q2, q⟩ := ob q
    cases q
    obtain ⟨xs, q3, q5⟩ := eArgs_inv q1
    obtain ⟨a, ha, _, _, _⟩ := ownC_at s q0
    refine ⟨_, ha, δ, xs, _, s, q3, fun vs as H1 p1 s1 nd fr m => ?_⟩
    obtain ⟨r, e0⟩ := dsOf_rp m q5
    obtain ⟨a', ha', oa, ra, _⟩ := ownC_at p1.sat qc
    rw [ha] at ha'; cases ha'
    refine ⟨by rw [List.length_cons, m.length, hlen _ _ q3], Sx S r1.2 σ, a, vs, c, r1.1, z.1, z.2, rfl, fun a h => p1.sat.there h, .inr oa, ra, r.wid (wid_nil e0), q2, fun v H2 ev th rc rv => ?_⟩
    have P := post_mut p1.sat qc ha ev th rc
    exact kk v H2 (p1.trans P) (rv.wid fun x h => .inl (h.elim .inl fun h => .inr ((putC_ownAt qc x).mp h)))
end

/-! ### a def by its body -/
def env0 (n : Nat) (xs : List Sl) : DEnv := xs.map some ++ List.replicate (n - xs.length) none
def runV (n : Nat) (sx : SX) (ds : List D) : Option D := (sx (env0 n (ds.map .p))).bind fun f => match f with
  | .rt (.p d) _ => some d
  | .nx _ => some .non
  | _ => none
def runO (n : Nat) (sx : SX) (ds : List D) : Option Ct := (sx (env0 n (ds.map .p))).bind fun f => match f with
  | .rt (.o c) _ => some c
  | _ => none
def headB (δ : DEnv) : Option Ct := match (δ[(0 : Nat)]? : Option (Option Sl)) with
  | some (some (.b c)) => some c
  | _ => none
theorem headB_of {c : Ct} (h : headB δ = some c) : δ[0]? = some (some (.b c)) := by
  unfold headB at h
  split at h
  · rename_i e; cases h; exact e
  · cases h
def runR (n : Nat) (sx : SX) (c : Ct) (ds : List D) : Option (D × Ct) := (sx (env0 n (.b c :: ds.map .p))).bind fun f => match f with
  | .rt (.p d) δ => (headB δ).bind fun c' => some (d, c')
  | .nx δ => (headB δ).bind fun c' => some (.non, c')
  | _ => none
theorem start_get {N : List Str} {zs : List V} {i : Nat} {v : V} (h : zs[i]? = some v) : (L2.start N zs)[i]? = some (some v) := by
  unfold L2.start
  rw [List.getElem?_append_left (by simpa using (List.getElem?_eq_some_iff.mp h).1)]
  simp [h]
theorem env0_get {xs : List Sl} {i : Nat} {s : Sl} (h : (env0 n xs)[i]? = some (some s)) : xs[i]? = some s := by
  unfold env0 at h
  by_cases hl : i < xs.length
  · rw [List.getElem?_append_left (by simpa using hl)] at h
    simpa using h
  · rw [List.getElem?_append_right (by simpa using hl)] at h
    rw [List.getElem?_replicate] at h
    split at h <;> cases h
theorem sat_start {N : List Str} {zs : List V} (al : ∀ a, T a → H a ≠ none) (r : RpA K H T zs ds) (hl : zs.length ≤ N.length) : Sat K T (env0 N.length (ds.map .p)) (L2.start N zs) H ∧ ∀ x, ¬ OwnAt (env0 N.length (ds.map .p)) (L2.start N zs) x := by
  have no : ∀ x, ¬ OwnAt (env0 N.length (ds.map .p)) (L2.start N zs) x := fun x ⟨i, ⟨s, e, o⟩, q⟩ => by
    have e' := env0_get e
    rw [List.getElem?_map] at e'
    cases hd : ds[i]? with
    | none => rw [hd] at e'; cases e'
    | some d => rw [hd] at e'; cases e'; cases o
  have pv : ∀ {i : Nat} {s : Sl}, (env0 N.length (ds.map .p))[i]? = some (some s) → ∃ d, s = .p d ∧ ds[i]? = some d := fun {i s} e => by
    have e' := env0_get e
    rw [List.getElem?_map] at e'
    cases hd : ds[i]? with
    | none => rw [hd] at e'; cases e'
    | some d => rw [hd] at e'; cases e'; exact ⟨d, rfl, rfl⟩
  refine ⟨⟨?_, al, fun i d h => ?_, fun i c h => ?_, fun i c a h => ?_, fun i j a h => ?_⟩, no⟩
  · unfold env0 L2.start
    simp [r.length]
  · obtain ⟨d', e1, e2⟩ := pv h
    cases e1
    obtain ⟨v, hv, rv⟩ := r.get e2
    exact ⟨v, start_get hv, rv.wid fun x h => .inl (h.elim id fun z => (no x z).elim)⟩
  · rcases h with h | h <;> obtain ⟨d', e1, _⟩ := pv h <;> cases e1
  · obtain ⟨d', e1, _⟩ := pv h; cases e1
  · obtain ⟨s, e, o⟩ := h
    obtain ⟨d', e1, _⟩ := pv e; cases e1; cases o
theorem sat_startR {N : List Str} {zs : List V} {a : Addr} {c : Ct} (al : ∀ a, T a → H a ≠ none) (ta : T a) (rc : CRp K H T a c) (r : RpA K H T zs ds) (hl : zs.length + 1 ≤ N.length) : Sat K T (env0 N.length (.b c :: ds.map .p)) (L2.start N (.ref a :: zs)) H ∧ ∀ x, OwnAt (env0 N.length (.b c :: ds.map .p)) (L2.start N (.ref a :: zs)) x → x = a := by
  have pv : ∀ {i : Nat} {s : Sl}, (env0 N.length (.b c :: ds.map .p))[i]? = some (some s) → (i = 0 ∧ s = .b c) ∨ ∃ d j, i = j + 1 ∧ s = .p d ∧ ds[j]? = some d := fun {i s} e => by
    have e' := env0_get e
    cases i with
    | zero => cases e'; exact .inl ⟨rfl, rfl⟩
    | succ j =>
      rw [List.getElem?_cons_succ, List.getElem?_map] at e'
      cases hd : ds[j]? with
      | none => rw [hd] at e'; cases e'
      | some d => rw [hd] at e'; cases e'; exact .inr ⟨d, j, rfl, rfl, hd⟩
  have g0 : (L2.start N (.ref a :: zs))[0]? = some (some (.ref a)) := start_get rfl
  have no : ∀ x, OwnAt (env0 N.length (.b c :: ds.map .p)) (L2.start N (.ref a :: zs)) x → x = a := fun x ⟨i, ⟨s, e, o⟩, q⟩ => by
    rcases pv e with ⟨rfl, rfl⟩ | ⟨d, j, rfl, rfl, _⟩
    · rw [g0] at q; cases q; rfl
    · cases o
  have w : Wid H T (Sx T (env0 N.length (.b c :: ds.map .p)) (L2.start N (.ref a :: zs))) := fun x h => .inl (h.elim id fun z => by rw [no x z]; exact ta)
  refine ⟨⟨?_, al, fun i d h => ?_, fun i c' h => ?_, fun i c' b h => ?_, fun i j b h h' q q' => ?_⟩, no⟩
  · unfold env0 L2.start
    simp [r.length]
  · rcases pv h with ⟨_, e⟩ | ⟨d', j, rfl, e1, e2⟩
    · cases e
    · cases e1
      obtain ⟨v, hv, rv⟩ := r.get e2
      exact ⟨v, start_get (by rw [List.getElem?_cons_succ]; exact hv), rv.wid w⟩
  · rcases h with h | h <;> rcases pv h with ⟨rfl, e⟩ | ⟨d', j, rfl, e1, _⟩
    · cases e
    · cases e1
    · cases e; exact ⟨a, g0, rc.wid w⟩
    · cases e1
  · rcases pv h with ⟨rfl, e⟩ | ⟨d', j, rfl, e1, _⟩
    · cases e
    · cases e1
  · obtain ⟨s, e, o⟩ := h
    obtain ⟨s', e', o'⟩ := h'
    rcases pv e with ⟨rfl, _⟩ | ⟨_, _, rfl, rfl, _⟩
    · rcases pv e' with ⟨rfl, _⟩ | ⟨_, _, rfl, rfl, _⟩
      · rfl
      · cases o'
    · cases o
section
variable {P : Program} {ww : World} {mg : Str → Option Value} {base : Heap} {N ps : List Str} {k : Nat} {st : Stmt} {f : Addr} {fd : FuncData} {sx : SX} {xn : Str}
/-- the body's derivation -/
abbrev Body (P : Program) (ww : World) (K : PySem.W.Frag) (mg : Str → Option Value) (base : Heap) (N : List Str) (k : Nat) (x : Str) (st : Stmt) (f : Addr) (sx : SX) : Prop :=
  ∀ (S : Addr → Prop) (cdv : Value) (A : Around) (outer : List Env) (s : Shared) (H : Hp) (E : XK), Room k (A.deeper (envOfC x (defScope st) s.heap.objs.size f cdv)) → (A.deeper (envOfC x (defScope st) s.heap.objs.size f cdv)).guards = some [] →
    PSs (cxOf L2.CX0 P ww K mg base N x (defScope st) f cdv A outer s H E).nox (defBody st) (rdS K S sx)
theorem fnG {sp : Sp} (F : L2.Fun K xn xn st f fd) (Sc : FnScope N ps (defScope st)) (len : ∀ vs H Q E, sp vs H Q E → vs.length = ps.length) (B : Body P ww K mg base N k xn st f sx)
    (h : ∀ (vs : List V) (H : Hp) (Q : VK) (E : XK), sp vs H Q E → ∃ S, rdS K S sx { nx := fun _ H' => Q .non H', rt := Q } (L2.start N vs) H) : FnG P ww K mg base (k + 1) f fd ps sp := by
  obtain ⟨oc, od, kV, doc, pm, an, cdv, ct, osl, rfl, lk, hcd⟩ := F.ex
  refine ⟨len, fun A hg hr outer s H args us vs Q E e0 hb r hsp => LamX.run_ofS lk hcd Sc hr e0 hb r (len _ _ _ _ hsp) fun hr' => ?_⟩
  obtain ⟨S, q⟩ := h vs H Q E hsp
  exact ⟨_, (B S cdv A outer s H E hr' hg).nox, q⟩
theorem gal_of {sp : Sp} (F : L2.Fun K xn xn st f fd) (hm : mg xn = some (.ref f)) (b : Binds K fd ps []) (G : FnG P ww K mg base k f fd ps sp) : Gal P ww K mg base k xn sp := ⟨f, fd, ps, G, hm, F.kp, b⟩
theorem len_start (Sc : FnScope N ps (defScope st)) : ps.length ≤ N.length := by
  have h := Sc.pre
  have h2 := congrArg List.length h
  rw [List.length_take] at h2
  omega
theorem galV (F : L2.Fun K xn xn st f fd) (hm : mg xn = some (.ref f)) (b : Binds K fd ps []) (Sc : FnScope N ps (defScope st)) (B : Body P ww K mg base N k xn st f sx) : Gal P ww K mg base (k + 1) xn (spV ps.length K (runV N.length sx)) :=
  gal_of F hm b (fnG F Sc (fun vs H Q E h => h.1) B fun vs H Q E ⟨hl, T, ds, d, al, r, e, q⟩ => by
    obtain ⟨fl, e1, e2⟩ := ob e
    obtain ⟨s, no⟩ := sat_start (N := N) al r (by rw [hl]; exact len_start Sc)
    refine ⟨T, _, fl, s, e1, ?_⟩
    cases fl with
    | nx δ => cases e2; exact fun σ' H' p => q _ H' (p.ev.mono fun x h => .inl (no x h)) .non
    | rt r δ =>
      cases r with
      | p d' => cases e2; exact fun v σ' H' p rv => q v H' (p.ev.mono fun x h => .inl (no x h)) (rv.wid fun x h => .inl (.inl h))
      | _ => cases e2
    | _ => cases e2)
theorem galO (F : L2.Fun K xn xn st f fd) (hm : mg xn = some (.ref f)) (b : Binds K fd ps []) (Sc : FnScope N ps (defScope st)) (B : Body P ww K mg base N k xn st f sx) : Gal P ww K mg base (k + 1) xn (spO ps.length K (runO N.length sx)) :=
  gal_of F hm b (fnG F Sc (fun vs H Q E h => h.1) B fun vs H Q E ⟨hl, T, ds, d, al, r, e, q⟩ => by
    obtain ⟨fl, e1, e2⟩ := ob e
    obtain ⟨s, no⟩ := sat_start (N := N) al r (by rw [hl]; exact len_start Sc)
    refine ⟨T, _, fl, s, e1, ?_⟩
    cases fl with
    | rt r δ =>
      cases r with
      | o d' => cases e2; exact fun a σ' H' p hn _ rv => q a H' hn (p.ev.mono fun x h => .inl (no x h)) (rv.wid fun x h => .inl (h.elim (fun h => .inl (.inl h)) fun h => .inl (.inr h)))
      | _ => cases e2
    | _ => cases e2)
theorem galR {n : Nat} (F : L2.Fun K xn xn st f fd) (hm : mg xn = some (.ref f)) (b : Binds K fd ps []) (Sc : FnScope N ps (defScope st)) (B : Body P ww K mg base N k xn st f sx) (hn : ps.length = n := by rfl) : Gal P ww K mg base (k + 1) xn (spR n K (runR N.length sx)) := by
  subst hn
  exact gal_of F hm b (fnG F Sc (fun vs H Q E h => h.1) B fun vs H Q E ⟨hl, T, a, ws, c, ds, d, c', hv, al, ta, rc, r, e, q⟩ => by
    subst hv
    obtain ⟨fl, e1, e2⟩ := ob e
    have hl' : ws.length + 1 ≤ N.length := by have := len_start Sc; rw [← hl, List.length_cons] at this; exact this
    obtain ⟨s, no⟩ := sat_startR (N := N) al ta rc r hl'
    have b0 : (env0 N.length (.b c :: ds.map Sl.p))[0]? = some (some (.b c)) := by unfold env0; rfl
    have g0 : (L2.start N (.ref a :: ws))[0]? = some (some (.ref a)) := start_get rfl
    have fin : ∀ {δ' : DEnv} {σ' : L2.St} {H' : Hp} {v : V} {d' : D} {c2 : Ct}, PostS K T (env0 N.length (.b c :: ds.map Sl.p)) (L2.start N (.ref a :: ws)) H δ' σ' H' → δ'[0]? = some (some (.b c2)) → d' = d → c2 = c' → Rp K H' (Sx T δ' σ') v d' → Q v H' := fun {δ' σ' H' v d' c2} p h0 hd hc rv => by
      subst hd hc
      obtain ⟨c1, h1, h2⟩ := p.bor 0 c b0
      rw [g0] at h2
      obtain ⟨a', h3, rc'⟩ := p.sat.own 0 _ (.inr h0)
      rw [h2] at h3; cases h3
      exact q v H' (p.ev.mono fun x h => .inl (no x h)) p.al (rc'.wid fun x h => .inl (.inl h)) (rv.wid fun x h => .inl (.inl h))
    refine ⟨T, _, fl, s, e1, ?_⟩
    cases fl with
    | nx δ =>
      obtain ⟨c2, h0, e3⟩ := ob e2
      cases e3
      exact fun σ' H' p => fin p (headB_of h0) rfl rfl .non
    | rt r δ =>
      cases r with
      | p d' =>
        obtain ⟨c2, h0, e3⟩ := ob e2
        cases e3
        exact fun v σ' H' p rv => fin p (headB_of h0) rfl rfl rv
      | _ => cases e2
    | _ => cases e2)
end
end
end DL

/-! DLk: isinstance, tuples turned round, dicts, repr. -/
namespace DL
open PySem PySem.Spec PyProof.Rows L2

section
variable {K : PySem.W.Frag} {S T : Addr → Prop} {δ δ1 δ2 δ' : DEnv} {σ σ1 σ2 σ' : L2.St} {H H1 H2 H' : Hp} {v w : V} {d : D} {ds es : List D} {DD : Ends} {f : Fl}
variable {X : Cx} {e a b c : Expr} {pos p2 : Pos} {i j l n : Nat} {x y z : Str} {px py pz : Pos} {vs ws : List Nat}

/-! ### isinstance -/
def tyD : D → Option String
  | .non => some "NoneType"
  | .bl _ => some "bool"
  | .int _ => some "int"
  | .str _ => some "str"
  | .lst _ => some "list"
  | .tup _ => some "tuple"
  | .ro _ => some "list"
  | .dk _ _ => some "dict"
  | _ => none
theorem Vw.ty {m : String} (h : Vw K H T v (.ty m)) : v = .ty m := by
  rcases h with h | ⟨a, c, rfl, r, e⟩
  · cases h; rfl
  · cases r <;> cases e
theorem vw_ty (h : Vw K H T v d) {m : String} (e : tyD d = some m) : TyX K H v (.type m) := by
  cases d <;> cases e
  · rw [h.non]; exact .base .non
  · rw [h.bl]; exact .base (.bl _)
  · rw [h.int]; exact .base (.int _)
  · rw [h.str]; exact .base (.str _)
  · obtain ⟨a, xs, rfl, hl, _⟩ := h.lst; exact .base (.lst hl)
  · obtain ⟨a, xs, rfl, hl, _⟩ := h.tup
    rcases hl with ⟨_, hl | ⟨o, hl⟩⟩ | ⟨o, its, n, hl, hc, _⟩
    · exact .base (.tup hl)
    · exact .fTuple hl
    · exact .kTuple hl hc
  · obtain ⟨a, kvs, rfl, hl, _⟩ := h.dk
    rcases hl with hl | ⟨o, hl⟩
    · exact .base (.dK hl)
    · exact .fDict hl
  · obtain ⟨a, xs, rfl, hl, _⟩ := h.ro
    rcases hl with ⟨_, o, hl⟩ | ⟨o, its, n, hl, hc, _⟩
    · exact .base (.frz hl)
    · exact .kList hl hc
def gIsi : List D → Option D
  | [x, .ty m] => (tyD x).bind fun t => (kitB t m).map .bl
  | _ => none
theorem d_isi : CallD K (rIsi K) gIsi := fun T H xs ds dz Q al vx e k => by
  cases vx with
  | nil => cases e
  | cons vx v2 =>
    cases v2 with
    | nil => cases e
    | cons vy v3 =>
      rename_i dy _ _
      cases v3 with
      | nil =>
        cases dy <;> try (cases e; done)
        rename_i m
        obtain ⟨t, e1, e2⟩ := ob e
        cases hk : kitB t m with
        | none => rw [hk] at e2; cases e2
        | some bb =>
          rw [hk] at e2
          cases e2
          rw [vy.ty]
          exact ⟨_, _, _, _, bb, rfl, .ty m, vw_ty vx e1, kit_ty hk, k _ H Ev.refl (.bl bb)⟩
      | cons _ _ => cases dy <;> cases e
def kitAnyB (t : String) : List String → Option Bool
  | [] => some false
  | m :: r => match kitB t m with
    | some true => some true
    | some false => kitAnyB t r
    | none => none
theorem kitAnyB_of : ∀ {ms : List String} {t : String} {b : Bool}, kitAnyB t ms = some b → PySem.W.kitAny K (.type t) (ms.map Value.type) = some b
  | [], t, b, h => by cases h; rfl
  | m :: r, t, b, h => by
    unfold kitAnyB at h
    split at h
    · rename_i q; cases h; exact kitAny_cons (kit_ty q) (fun z => by cases z) fun _ => rfl
    · rename_i q; exact kitAny_cons (kit_ty q) (fun _ => kitAnyB_of h) fun z => by cases z
    · cases h
/-- isinstance(x, (T1, T2)) -/
def eIsi2 (m1 m2 : String) (h : HX) : EX := fun δ => (h δ).bind fun p => (p.1.d p.2).bind fun d => (tyD d).bind fun t => (kitAnyB t [m1, m2]).bind fun b => some (.bl b, p.2)
theorem pd_isi2 {p : Pos} {e1 e2 : Expr} {m1 m2 : String} {h : HX} {kk : Nat} (hg : Gl X "isinstance") (hm : X.mg "isinstance" = none) (he : PE X e (rdh X.K S h)) (h1 : PE X e1 (tC (.ty m1))) (h2 : PE X e2 (tC (.ty m2)))
    (hs0 : starEach [e, .Tuple [e1, e2] kk p2] X.env = (false, eval e X.env) :: starEach [.Tuple [e1, e2] kk p2] X.env := by rfl) (hs1 : starEach [.Tuple [e1, e2] kk p2] X.env = (false, eval (.Tuple [e1, e2] kk p2) X.env) :: starEach [] X.env := by rfl)
    (hs2 : starEach [e1, e2] X.env = (false, eval e1 X.env) :: starEach [e2] X.env := by rfl) (hs3 : starEach [e2] X.env = (false, eval e2 X.env) :: starEach [] X.env := by rfl)
    (hpl : (backTo pos (starEach [.Tuple [e1, e2] kk p2] X.env)).any (·.1) = false := by rfl) : PE X (.Call (.Name "isinstance" p) [e, .Tuple [e1, e2] kk p2] [] pos) (rd X.K S (eIsi2 m1 m2 h)) :=
  peI (pe_callB call_isiT hg hm PyProof.Rows.boot_isinstance (pa_cons he (pa_cons (pe_tup (pa_cons h1 (pa_cons h2 pa_nil hs3) hs2)) pa_nil hs1) hs0) (he := hs0) (hpl := hpl)) fun σ H Q ⟨δ, d, δe, s, q, k⟩ => by
    obtain ⟨⟨xh, δ1⟩, q1, q⟩ := ob q
    obtain ⟨dx, q2, q⟩ := ob q
    obtain ⟨t, q3, q⟩ := ob q
    obtain ⟨bb, q4, q⟩ := ob q
    cases q
    refine ⟨δ, xh, _, s, q1, fun v H1 p1 r1 => ⟨by show 2 ≤ sizeLine; decide, fun tp ht => ?_⟩⟩
    have ev : Ev (fun _ => False) H1 (upd H1 tp (.tup [.ty m1, .ty m2])) := Ev.new ht
    have p1' := p1.grow ev
    have r1' : HdOk X.K S δ1 σ (upd H1 tp (.tup [.ty m1, .ty m2])) v xh := r1.on ((PostE.refl p1.sat).grow ev)
    exact ⟨v, tp, [.ty m1, .ty m2], .type t, [.type m1, .type m2], bb, rfl, upd_same, .cons (.ty m1) (.cons (.ty m2) .nil), vw_ty (r1'.vw p1'.sat q2) q3, kitAnyB_of q4, k _ _ p1' (.bl bb)⟩

/-! ### dicts -/
def lookD : List Key → List D → Key → Option D
  | k :: ks, d :: ds, q => if k = q then some d else lookD ks ds q
  | _, _, _ => none
theorem lookD_of : ∀ {kvs : List (Key × V)} {ds : List D} {q : Key} {d : D}, RpA K H T (kvs.map (·.2)) ds → lookD (kvs.map (·.1)) ds q = some d → ∃ v, valV kvs q = some v ∧ Rp K H T v d
  | [], ds, q, d, r, h => by cases r; cases h
  | kv :: kvs, ds, q, d, r, h => by
    cases r with
    | cons r rr =>
      have h' : (if kv.1 = q then some _ else lookD (kvs.map (·.1)) _ q) = some d := h
      split at h'
      · rename_i e; cases h'; exact ⟨kv.2, valV_pos e, r⟩
      · rename_i e
        obtain ⟨v, h1, h2⟩ := lookD_of rr h'
        exact ⟨v, by rw [valV_neg e]; exact h1, h2⟩
def keyD : D → Option Key
  | .int i => some (.inl i)
  | .str x => some (.inr x)
  | _ => none
theorem keyD_of (h : Vw K H T v d) {k : Key} (e : keyD d = some k) : v = kV k := by
  cases d <;> cases e
  · rw [h.int]; rfl
  · rw [h.str]; rfl
def gGet : D → D → Option D
  | .dk ks ds, y => (keyD y).bind fun k => lookD ks ds k
  | _, _ => none
def rGet : R2 := fun x y H Q => ∃ a v, x = .ref a ∧ DGet H a y (some v) ∧ Q v H
theorem d_get : OpD K rGet gGet := fun T H x y dx dy dz Q al vx vy e k => by
  cases dx <;> try (cases e; done)
  obtain ⟨q, e1, e2⟩ := ob e
  obtain ⟨a, kvs, rfl, hr, rfl, r⟩ := vx.dk
  obtain ⟨v, e3, e4⟩ := lookD_of r e2
  exact ⟨a, v, rfl, .inl ⟨kvs, q, hr, keyD_of vy e1, e3.symm⟩, k v H Ev.refl e4⟩
theorem pd_dget {g h : HX} (hu : X.A.units + 1 < cLine) (ho : PE X a (rdh X.K S g)) (hi : PE X b (rdh X.K S h)) (hs : NoSl b) : PE X (.Subscript a b pos) (rd X.K S (eOp gGet g h)) :=
  peI (pe_dget hu ho hi hs) fun σ H Q q => rd_op (r := rGet) d_get q
/-- dict(a list of pairs) -/
def putD (ks : List Key) (ds : List D) (q : Key) (d : D) : List Key × List D := if ks.any (fun k => decide (k = q)) then (ks, setD ks ds) else (ks ++ [q], ds ++ [d])
where setD : List Key → List D → List D
  | k :: ks, e :: ds => (if k = q then d else e) :: setD ks ds
  | _, _ => []
def pairD : D → Option (Key × D)
  | .tup [k, d] => (keyD k).map fun q => (q, d)
  | _ => none
def pairsD : List D → Option (List (Key × D))
  | [] => some []
  | d :: ds => (pairD d).bind fun p => (pairsD ds).bind fun r => some (p :: r)
def mergeD : List Key → List D → List (Key × D) → List Key × List D
  | ks, ds, [] => (ks, ds)
  | ks, ds, (q, d) :: r => mergeD (putD ks ds q d).1 (putD ks ds q d).2 r
theorem putD_of {kvs : List (Key × V)} {q : Key} (r : RpA K H T (kvs.map (·.2)) ds) (rv : Rp K H T v d) : (putK kvs q v).map (·.1) = (putD (kvs.map (·.1)) ds q d).1 ∧ RpA K H T ((putK kvs q v).map (·.2)) (putD (kvs.map (·.1)) ds q d).2 := by
  unfold putK putD
  have e : (kvs.map (·.1)).any (fun k => decide (k = q)) = kvs.any fun kv => decide (kv.1 = q) := by rw [List.any_map]; rfl
  rw [e]
  split
  · rename_i hh
    refine ⟨?_, ?_⟩
    · rw [List.map_map]
      refine List.map_congr_left fun kv _ => ?_
      show (if kv.1 = q then (kv.1, v) else kv).1 = kv.1
      split <;> rfl
    · clear e hh
      revert r ds
      induction kvs with
      | nil => intro ds r; cases r; exact .nil
      | cons kv kvs ih =>
        intro ds r
        cases r with
        | cons r rr =>
          show RpA K H T ((if kv.1 = q then (kv.1, v) else kv).2 :: _) ((if kv.1 = q then d else _) :: _)
          refine .cons ?_ (ih rr)
          by_cases c : kv.1 = q
          · rw [if_pos c, if_pos c]; exact rv
          · rw [if_neg c, if_neg c]; exact r
  · rw [List.map_append, List.map_append]
    exact ⟨rfl, r.append (.cons rv .nil)⟩
theorem mergeD_of : ∀ {ps : List Addr} {kvs acc : List (Key × V)} {qs : List (Key × D)} {ds : List D}, (acc.length = acc.length) → RpA K H T (acc.map (·.2)) ds → (kvs.map (·.1) = qs.map (·.1)) → RpA K H T (kvs.map (·.2)) (qs.map (·.2)) →
    (mergeK acc kvs).map (·.1) = (mergeD (acc.map (·.1)) ds qs).1 ∧ RpA K H T ((mergeK acc kvs).map (·.2)) (mergeD (acc.map (·.1)) ds qs).2
  | ps, [], acc, [], ds, _, r, _, _ => ⟨rfl, r⟩
  | ps, [], acc, q :: qs, ds, _, r, e, _ => by cases e
  | ps, kv :: kvs, acc, [], ds, _, r, e, _ => by cases e
  | ps, kv :: kvs, acc, (q, d) :: qs, ds, _, r, e, rr => by
    injection e with e1 e2
    have e1 : kv.1 = q := e1
    subst e1
    cases rr with
    | cons rv rr =>
      obtain ⟨h1, h2⟩ := putD_of (q := kv.1) r rv
      have := mergeD_of (ps := ps) (kvs := kvs) (acc := putK acc kv.1 kv.2) (qs := qs) rfl h2 e2 rr
      rw [h1] at this
      exact this
theorem pairs_of : ∀ {xs ds : List _} {qs : List (Key × D)}, RpA K H T xs ds → pairsD ds = some qs → ∃ (ps : List Addr) (kvs : List (Key × V)), xs = ps.map V.ref ∧ Paired (fun p kv => SqT K H p [kV kv.1, kv.2]) ps kvs ∧ kvs.map (·.1) = qs.map (·.1) ∧ RpA K H T (kvs.map (·.2)) (qs.map (·.2))
  | _, _, qs, .nil, h => by cases h; exact ⟨[], [], rfl, .nil, rfl, .nil⟩
  | _, _, qs, .cons (d := d) r rr, h => by
    obtain ⟨⟨q, dd⟩, h1, h2⟩ := ob h
    obtain ⟨qs', h3, h4⟩ := ob h2
    cases h4
    obtain ⟨ps, kvs, rfl, h5, h6, h7⟩ := pairs_of rr h3
    unfold pairD at h1
    split at h1
    · rename_i dk dv
      cases hk : keyD dk with
      | none => rw [hk] at h1; cases h1
      | some kq =>
        rw [hk] at h1
        cases h1
        cases r with
        | tup m r =>
          cases r with
          | cons r1 r2 =>
            cases r2 with
            | cons r2 r3 =>
              cases r3
              refine ⟨_ :: ps, (q, _) :: kvs, rfl, .cons ?_ h5, by rw [List.map_cons, List.map_cons, h6], .cons r2 h7⟩
              have := keyD_of (.inl r1) hk
              subst this
              exact m.sq
    · cases h1
def cDict : List D → Option Ct
  | [.lst xs] => (pairsD xs).bind fun qs => some (.dk (mergeD [] [] qs).1 (mergeD [] [] qs).2)
  | _ => none
def rDict (K : PySem.W.Frag) : List V → Hp → VK → Prop := fun xs H Q => ∃ (a : Addr) (ps : List Addr) (kvs : List (Key × V)), xs = [.ref a] ∧ SqL K H a (ps.map V.ref) ∧ Paired (fun p kv => SqT K H p [kV kv.1, kv.2]) ps kvs ∧ ∀ p, H p = none → Q (.ref p) (upd H p (.dK (mergeK [] kvs)))
theorem o_dict : CallO K (rDict K) cDict := fun T H xs ds dz Q al vx e k => by
  cases vx with
  | nil => cases e
  | cons vx v2 =>
    rename_i dx _ _
    cases v2 with
    | cons _ _ => cases dx <;> cases e
    | nil =>
      cases dx <;> try (cases e; done)
      obtain ⟨qs, e1, e2⟩ := ob e
      cases e2
      obtain ⟨a, xs, rfl, hl, r⟩ := vx.lst
      obtain ⟨ps, kvs, rfl, h5, h6, h7⟩ := pairs_of r e1
      refine ⟨a, ps, kvs, rfl, .inl (.inl hl), h5, fun p hp => k p _ hp ?_⟩
      obtain ⟨h8, h9⟩ := mergeD_of (ps := ps) (acc := []) rfl .nil h6 h7
      have h8 : (mergeK [] kvs).map (·.1) = (mergeD [] [] qs).1 := h8
      rw [← h8]
      exact .dk upd_same (h9.ev (M := fun _ => False) (Ev.new hp) (fun _ z => z.elim) fun x z => z.elim .inl fun z => .inr (by rw [z]; exact hp))

/-! ### for k in d -/
def kD : Key → D
  | .inl i => .int i
  | .inr x => .str x
theorem kD_rp (k : Key) : Rp K H T (kV k) (kD k) := by cases k <;> constructor
/-- what data tells of passes from H to H' -/
structure Tr (H H' : Hp) : Prop where
  lst : ∀ p xs, H p = some (.lst xs) → H' p = some (.lst xs)
  frz : ∀ p o xs, H p = some (.frz o (.lst xs)) → H' p = some (.frz o (.lst xs))
  tup : ∀ p xs, Rd H p (.tup xs) → Rd H' p (.tup xs)
  dK : ∀ p xs, Rd H p (.dK xs) → Rd H' p (.dK xs)
  dT : ∀ p xs, Rd H p (.dT xs) → Rd H' p (.dT xs)
mutual
theorem Rp.tr (t : Tr H H') : ∀ {v : V} {d : D}, Rp K H S v d → Rp K H' S v d
  | _, _, .non => .non
  | _, _, .bl b => .bl b
  | _, _, .int i => .int i
  | _, _, .str x => .str x
  | _, _, .lst m r => .lst ⟨m.1, t.lst _ _ m.2⟩ (RpA.tr t r)
  | _, _, .tup m r => .tup (m.imp (fun z => ⟨z.1, t.tup _ _ z.2⟩) id) (RpA.tr t r)
  | _, _, .dk n r q => .dk n (t.dK _ _ r) (RpA.tr t q)
  | _, _, .dt n r q => .dt n (t.dT _ _ r) (RpA.tr t q)
  | _, _, .fn a => .fn a
  | _, _, .ty a => .ty a
  | _, _, .ro m r => .ro (m.imp (fun z => ⟨z.1, z.2.elim fun o q => ⟨o, t.frz _ _ _ q⟩⟩) id) (RpA.tr t r)
theorem RpA.tr (t : Tr H H') : ∀ {vs : List V} {ds : List D}, RpA K H S vs ds → RpA K H' S vs ds
  | _, _, .nil => .nil
  | _, _, .cons h r => .cons (Rp.tr t h) (RpA.tr t r)
end
section
variable {kvs : List (Key × V)} {o : Obj} {q : Addr}
theorem tr_frz (h : H q = some (.dK kvs)) : Tr H (upd H q (.frz o (.dK kvs))) := by
  have ne : ∀ {p u}, H p = some u → u ≠ .dK kvs → p ≠ q := fun {p u} e n z => by subst z; rw [h] at e; cases e; exact n rfl
  have rd : ∀ {p u}, Rd H p u → (∀ o' u', u ≠ .frz o' u') → u ≠ .dK kvs → Rd (upd H q (.frz o (.dK kvs))) p u := fun {p u} r hu n => by
    rcases r with r | ⟨o', r⟩
    · exact .inl (by rw [upd_ne (ne r n)]; exact r)
    · exact .inr ⟨o', by rw [upd_ne (ne r (fun z => nomatch z))]; exact r⟩
  refine ⟨fun p xs e => by rw [upd_ne (ne e (fun z => nomatch z))]; exact e, fun p o' xs e => by rw [upd_ne (ne e (fun z => nomatch z))]; exact e, fun p xs r => rd r (fun _ _ z => nomatch z) (fun z => nomatch z), fun p xs r => ?_, fun p xs r => rd r (fun _ _ z => nomatch z) (fun z => nomatch z)⟩
  by_cases e : p = q
  · subst e
    rcases r with r | ⟨o', r⟩ <;> rw [h] at r <;> cases r
    exact .inr ⟨o, upd_same⟩
  · rcases r with r | ⟨o', r⟩
    · exact .inl (by rw [upd_ne e]; exact r)
    · exact .inr ⟨o', by rw [upd_ne e]; exact r⟩
theorem tr_unfrz (h : H q = some (.frz o (.dK kvs))) : Tr H (upd H q (.dK kvs)) := by
  have ne : ∀ {p u}, H p = some u → u ≠ .frz o (.dK kvs) → p ≠ q := fun {p u} e n z => by subst z; rw [h] at e; cases e; exact n rfl
  have rd : ∀ {p u}, Rd H p u → (∀ o' u', u ≠ .frz o' u') → u ≠ .dK kvs → Rd (upd H q (.dK kvs)) p u := fun {p u} r hu n => by
    rcases r with r | ⟨o', r⟩
    · exact .inl (by rw [upd_ne (ne r (hu _ _))]; exact r)
    · exact .inr ⟨o', by rw [upd_ne (ne r (fun z => n (by cases z; rfl)))]; exact r⟩
  refine ⟨fun p xs e => by rw [upd_ne (ne e (fun z => nomatch z))]; exact e, fun p o' xs e => by rw [upd_ne (ne e (fun z => nomatch z))]; exact e, fun p xs r => rd r (fun _ _ z => nomatch z) (fun z => nomatch z), fun p xs r => ?_, fun p xs r => rd r (fun _ _ z => nomatch z) (fun z => nomatch z)⟩
  by_cases e : p = q
  · subst e
    rcases r with r | ⟨o', r⟩ <;> rw [h] at r <;> cases r
    exact .inl (by rw [upd_same])
  · rcases r with r | ⟨o', r⟩
    · exact .inl (by rw [upd_ne e]; exact r)
    · exact .inr ⟨o', by rw [upd_ne e]; exact r⟩
theorem CRp.tr {a : Addr} {c : Ct} (r : CRp K H S a c) (t : Tr H H') (e : H' a = H a) : CRp K H' S a c := by
  cases r with
  | lst h r => exact .lst (e.trans h) (r.tr t)
  | dk h r => exact .dk (e.trans h) (r.tr t)
  | dt h r => exact .dt (e.trans h) (r.tr t)
theorem Sat.tr (s : Sat K S δ σ H) (t : Tr H H') (al : ∀ a, H a ≠ none → H' a ≠ none) (ow : ∀ x, OwnAt δ σ x → H' x = H x) : Sat K S δ σ H' := by
  refine ⟨s.len, fun a h => al a (s.alloc a h), fun i d h => let ⟨v, q, r⟩ := s.pure i d h; ⟨v, q, r.tr t⟩, fun i c h => ?_, s.off, s.sep⟩
  obtain ⟨a, q, oa, r⟩ := ownAt_of_o s h
  exact ⟨a, q, r.tr t (ow a oa)⟩
end
theorem walks_keys {kvs : List (Key × V)} {o : Obj} {q : Addr} : Walks K (Itk q o kvs) (fun T H => ¬ T q ∧ H q = some (.frz o (.dK kvs))) ((kvs.map (·.1)).map kD) where
  ev := fun T T' M H H' h e m w => ⟨fun z => (w q z).elim h.1 (by rw [h.2]; exact fun z => nomatch z), e q _ h.2 fun z => h.1 (m q z)⟩
  go := fun T i H h hi => ⟨h.2, by simpa using hi⟩
  yld := fun T i H x H' h al y hi => by
    obtain ⟨rfl, k, v, hk, rfl⟩ := y
    exact ⟨Ev.refl, kD k, by simp [hk], kD_rp k⟩
  stop := fun T i H h hi => ⟨h.2, by simpa using hi⟩
/-- for k in name: the name's dict is only read in the loop -/
def sForK (i : Nat) (tx : TX) (body : SX) : SX := fun δ => (eVar i δ).bind fun p => match p.1 with
  | .dk ks _ => loopS tx body (ks.map kD) p.2
  | _ => none
theorem post_lock {q : Addr} {kvs : List (Key × V)} {o : Obj} (hq : H q = some (.dK kvs)) (nq : ¬ OwnAt δ1 σ q) (p : PostS K S δ1 σ (upd H q (.frz o (.dK kvs))) δ' σ' H') :
    H' q = some (.frz o (.dK kvs)) ∧ Tr H' (upd H' q (.dK kvs)) ∧ PostS K S δ1 σ H δ' σ' (upd H' q (.dK kvs)) := by
  have h1 : H' q = some (.frz o (.dK kvs)) := p.ev q _ upd_same nq
  have no : ¬ OwnAt δ' σ' q := fun z => (p.new q z).elim nq fun z => by rw [upd_same] at z; cases z
  have t := tr_unfrz h1
  have back : ∀ x, H x ≠ none → upd H q (.frz o (.dK kvs)) x ≠ none := fun x h => upd_th x h
  refine ⟨h1, t, p.sat.tr t (fun x h => upd_th x h) (fun x z => upd_ne fun e => no (e ▸ z)), fun x u e n => ?_, fun x z => (p.new x z).imp id fun z => none_back back z, p.bor, fun x h => upd_th x (p.al x (back x h))⟩
  by_cases c : x = q
  · subst c; rw [hq] at e; cases e; exact upd_same
  · rw [upd_ne c]; exact p.ev x u (by rw [upd_ne c]; exact e) n
def tForK (i : Nat) (g : TG) (tb : TS) : TS := tFor (iKeys (tVar i)) g tb
theorem psOr {st : Stmt} {t u : TS} (h1 : PS X st t) (h2 : PS X st u) : PS X st (fun DD σ H => t DD σ H ∨ u DD σ H) := ⟨fun pins s σ H DD I q => q.elim (h1.run pins s σ H DD I) (h2.run pins s σ H DD I)⟩
theorem psd_forK {iter tg : Expr} {body : List Stmt} {tx : TX} {ws : List Nat} {sb : SX} (hp : PassesOwn (model X.prog X.w) X.A X.env X.xe) (hc : X.calm = true) (hi : PE X iter (tVar i)) (hg : PG X tg (rdG X.K S tx ws)) (hb : PSs X body (rdS X.K S sb))
    (hs : ∀ x, foldedSetIterable iter X.env x = pure x := by intro _; rfl) : PS X (.For tg iter body [] pos) (rdS X.K S (sForK i tx sb)) := by
  have st : PS X (.For tg iter body [] pos) (tForK i (rdG X.K S tx ws) (rdS X.K S sb)) := ps_for hp hc (pi_keys hi) hg hb hs
  refine psI (psOr st (ps_lock st)) fun DD σ H hh => ?_
  have go : tForK i (rdG X.K S tx ws) (rdS X.K S sb) DD σ H ∨ tLock (tForK i (rdG X.K S tx ws) (rdS X.K S sb)) DD σ H := by
    obtain ⟨δ, f, s, q, k⟩ := hh
    obtain ⟨⟨d, δ1⟩, q1, q2⟩ := ob q
    cases d <;> try (cases q2; done)
    rename_i ks ds
    obtain ⟨v, hv, p1, r⟩ : ∃ v, σ[i]? = some (some v) ∧ PostE X.K S δ σ H δ1 H ∧ Rp X.K H (Sx S δ1 σ) v (.dk ks ds) := by
      unfold eVar at q1
      split at q1
      · rename_i z e1; cases q1
        obtain ⟨v, hv, r⟩ := s.pure i _ e1
        exact ⟨v, hv, PostE.refl s, r⟩
      · rename_i c e1
        injection q1 with q1
        injection q1 with qa qb
        subst qb
        obtain ⟨s', v, hv, r⟩ := s.give e1
        exact ⟨_, hv, post_give s e1, by rw [← qa]; exact r⟩
      · cases q1
    have P1 := PostS.ofE p1
    cases r with
    | dk nq hq r =>
      rename_i a kvs
      have nq' : ¬ OwnAt δ1 σ a := fun z => nq (.inr z)
      rcases hq with hq | ⟨o, hq⟩
      · refine .inr ⟨a, .dK kvs, hq, trivial, fun od => ?_⟩
        have t0 := tr_frz (o := od) hq
        have s1 : Sat X.K S δ1 σ (upd H a (.frz od (.dK kvs))) := p1.sat.tr t0 (fun x h => upd_th x h) fun x z => upd_ne fun e => nq' (e ▸ z)
        refine ⟨_, hv, a, od, rfl, .inl ⟨kvs, upd_same, for_core (PostS.refl s1) walks_keys ⟨nq, upd_same⟩ q2 ?_⟩⟩
        have k1 := k.on P1
        cases f with
        | nx δ' => exact fun σ' H' p => let ⟨a1, a2, a3⟩ := post_lock hq nq' p; ⟨a1, k1 _ _ a3⟩
        | bk δ' => exact fun σ' H' p => let ⟨a1, a2, a3⟩ := post_lock hq nq' p; ⟨a1, k1 _ _ a3⟩
        | ct δ' => exact fun σ' H' p => let ⟨a1, a2, a3⟩ := post_lock hq nq' p; ⟨a1, k1 _ _ a3⟩
        | rt r δ' =>
          cases r with
          | p d => exact fun v σ' H' p rv => let ⟨a1, a2, a3⟩ := post_lock hq nq' p; ⟨a1, k1 _ _ _ a3 (rv.tr a2)⟩
          | o c =>
            exact fun b σ' H' p hn s2 rc => by
              obtain ⟨a1, a2, a3⟩ := post_lock hq nq' p
              have hn' : H b = none := none_back (fun x h => upd_th x h) hn
              have nb : b ≠ a := fun z => by subst z; rw [hq] at hn'; cases hn'
              exact ⟨a1, k1 _ _ _ a3 hn' (s2.tr a2 (fun x h => upd_th x h) fun x z => upd_ne fun e => (p.new x z).elim (fun z => nq' (e ▸ z)) fun z => by rw [e, upd_same] at z; cases z) (rc.tr a2 (upd_ne nb))⟩
          | b c => exact k1
      · exact .inl ⟨_, hv, a, o, rfl, .inl ⟨kvs, hq, for_core P1 walks_keys ⟨nq, hq⟩ q2 k⟩⟩
  exact go
end
end DL

/-! DLl: a tuple turned round; repr. -/
namespace DL
open PySem PySem.Spec PyProof.Rows L2 HT

section
variable {prog : Program} {w : World} {A : Around} {E : Value → Shared → Prop} {s : Shared} {t sl : Addr} {items : Array Value} {vl vu vk : Value}
theorem applied_back {m : Nat} {Q : Int × Int × Nat → Shared → Prop} (hs : s.heap.IsSliceOf sl vl vu vk) (pl : IsPart vl none) (pu : IsPart vu none) (pk : IsPart vk (some (-1))) (h : Q ((m : Int) - 1, -1, m) s) :
    wpAny (model prog w) A (Builtin.Slice.sliceApplied (.ref sl) (pure (m : Int))) Q E s := by
  obtain ⟨o1, e1, e2, e3⟩ := id hs
  have pm : Builtin.Slice.slicePlaces ((m : Int) - 1) (-1) (-1) = m := by
    unfold Builtin.Slice.slicePlaces
    by_cases c : (m : Int) - 1 > -1
    · simp [c]
    · have : m = 0 := by omega
      subst this; simp
  have key : wpAny (model prog w) A (pure ((m : Int) - 1, (-1 : Int), Builtin.Slice.slicePlaces ((m : Int) - 1) (-1) (-1)) : Sem (Int × Int × Nat)) Q E s := by rw [pm]; exact wpAny_pure h
  have fields : ∀ {R : Value × Value × Value → Shared → Prop}, R (vl, vu, vk) s → wpAny (model prog w) A (Builtin.Slice.sliceFields (.ref sl)) R E s := fun {R} r => by
    unfold Builtin.Slice.sliceFields
    exact wpAny_bind (wpAny_field e1 e3 (x := vl) rfl (wpAny_bind (wpAny_field e1 e3 (x := vu) rfl (wpAny_bind (wpAny_field e1 e3 (x := vk) rfl (wpAny_pure r))))))
  unfold Builtin.Slice.sliceApplied
  refine wpAny_bind (fields (wpAny_bind (slicePart_ pk ?_)))
  show wpAny _ _ (if ((-1 : Int) == 0) = true then _ else _) _ _ s
  rw [if_neg (by decide)]
  exact wpAny_bind (slicePart_ pl (wpAny_bind (slicePart_ pu (wpAny_bind (wpAny_pure key)))))
theorem fmap_congr {α β : Type} {f g : α → Option β} : ∀ (l : List α), (∀ x ∈ l, f x = g x) → l.filterMap f = l.filterMap g
  | [], _ => rfl
  | x :: l, h => by
    rw [List.filterMap_cons, List.filterMap_cons, h x List.mem_cons_self, fmap_congr l fun y hy => h y (List.mem_cons_of_mem _ hy)]
theorem pick_back (xs : Array Value) : ((List.range xs.size).filterMap fun (k : Nat) => xs[(((xs.size : Int) - 1) + (k : Int) * (-1)).toNat]?).toArray = xs.toList.reverse.toArray := by
  congr 1
  have h := PySem.W.krv_all xs
  rw [← h, ← List.filterMap_reverse, ← PySem.W.krv_range, List.filterMap_map]
  refine fmap_congr _ fun k hk => ?_
  have := List.mem_range.mp hk
  show _ = xs[xs.size - 1 - k]?
  congr 1
  omega
theorem item_back {Q : Value → Shared → Prop} (ht : IsTup s.heap t items) (hs : s.heap.IsSliceOf sl vl vu vk) (pl : IsPart vl none) (pu : IsPart vu none) (pk : IsPart vk (some (-1)))
    (h : Q (.ref s.heap.objs.size) { s with heap := s.heap.push { cls := .type "tuple", data := .seq items.toList.reverse.toArray } }) (hsz : items.size ≤ sizeLine) : wpAny (model prog w) A (getItem (.ref t) (.ref sl)) Q E s := by
  have fits : sizeOk (.seq items.toList.reverse.toArray) := by
    show items.toList.reverse.toArray.size ≤ sizeLine
    simpa using hsz
  obtain ⟨o1, e1, e2, e3⟩ := id hs
  have isS : s.TypeIs (.ref sl) "slice" := ⟨o1, e1, e2⟩
  unfold getItem
  try with_reducible refine wpAny_holding ?_
  first | refine wpAny_bind (wpAny_pure ?_) | skip
  refine wpAny_bind (wpAny_sequenceKey ht.typeIs (by decide) (wpAny_bind (wpAny_callSpecial?_slot (name := Str.ofString "__getitem__") ht.typeIs PyProof.Rows.slot_tuple_getitem (wpAny_call_entry PyProof.Rows.slot_tuple_getitem ht.typeIs entry_tuple_getitem ?_ (args_tuple_getitem _ _)))))
  show wpAny _ _ (Builtin.Tuple.tupleItemsOf (.ref t) >>= _) _ _ s
  refine wpAny_bind (tupleItemsOf_ ht (wpAny_bind (wpAny_typeOf isS ?_)))
  rw [if_pos (by decide)]
  refine wpAny_bind (applied_back hs pl pu pk ?_)
  show wpAny _ _ (if (((items.size : Int) - 1) == 0 && (-1 : Int) == 1 && items.size == items.size) = true then _ else _) _ _ s
  rw [if_neg (by simp), pick_back]
  first
    | exact wpAny_bind (m := Builtin.Tuple.tupleExact _) (wpAny_newObj_type (wpAny_pure ⟨_, rfl, wpAny_pure h⟩) fits)
    | exact wpAny_bind (m := Builtin.Tuple.tupleExact _) (wpAny_newObj_type (wpAny_bind (wpAny_pure (wpAny_pure ⟨_, rfl, wpAny_pure h⟩))) fits)
    | exact wpAny_bind (wpAny_bind (m := Builtin.Tuple.tupleExact _) (wpAny_newObj_type (wpAny_pure (wpAny_pure ⟨_, rfl, wpAny_pure h⟩)) fits))
    | exact wpAny_bind (wpAny_bind (m := Builtin.Tuple.tupleExact _) (wpAny_newObj_type (wpAny_pure ⟨_, rfl, wpAny_pure h⟩) fits))
end
section
variable {K : PySem.W.Frag} {S T : Addr → Prop} {δ δ1 δ2 δ' : DEnv} {σ : L2.St} {H H1 H2 H' : Hp} {v w : V} {d : D} {ds : List D}
variable {X : Cx} {e a b c : Expr} {pos : Pos}
def tBackT (K : PySem.W.Frag) (te : TE) : TE := fun σ H Q => te σ H fun x H1 => ∃ p xs, x = .ref p ∧ SqT K H1 p xs ∧ ∀ q, H1 q = none → Q (.ref q) (upd H1 q (.tup xs.reverse))
theorem pe_backT {te : TE} {k : Nat} {p1 p2 p3 : Pos} (he : PE X e te) : PE X (.Subscript e (.Slice none none (some (.UnaryOp .USub (.Constant (.int 1) k p1) p2)) p3) pos) (tBackT X.K te) := by
  refine ⟨fun pins s σ H Q I h => Subscript_ (thn (he.run pins s σ H _ I h) fun v s1 ⟨x, H1, I1, r1, p, xs, hv, hx, q⟩ => ?_)⟩
  subst hv
  cases r1
  have minus : PO X (some (.UnaryOp .USub (.Constant (.int 1) k p1) p2)) (tPart (tUn (rU fun i => .int (-i)) (tC (.int 1)))) := po_some (pe_un un_neg pe_int)
  refine wpAny_Slice (thn (po_none.run pins s1 σ H1 (fun o G => o = none ∧ G = H1) I1 ⟨rfl, rfl⟩) fun u1 s2 ⟨o1, G2, I2, k1, ho1, hG2⟩ => ?_)
  subst ho1 hG2
  refine thn (po_none.run pins s2 σ G2 (fun o G => o = none ∧ G = G2) I2 ⟨rfl, rfl⟩) fun u2 s3 ⟨o2, G3, I3, k2, ho2, hG3⟩ => ?_
  subst ho2 hG3
  refine thn (minus.run pins s3 σ G3 (fun o G => o = some (-1) ∧ G = G3) I3 ⟨1, rfl, -1, rfl, rfl, rfl⟩) fun u3 s4 ⟨o3, G4, I4, k3, ho3, hG4⟩ => ?_
  subst ho3 hG4
  have I5 : Inv X pins σ G4 { s4 with heap := s4.heap.push { cls := .type "slice", data := .fields #[u1, u2, u3] } } := I4.kept (t' := s4.toks) fun b ob e => Heap.get?_push_of_some _ e
  obtain ⟨its, r, ht, hz⟩ := I5.tuple hx
  have len := r.length
  show wpAny (model X.prog X.w) X.A (subscriptTail e (.Slice none none (some (.UnaryOp .USub (.Constant (.int 1) k p1) p2)) p3) (.ref p) (.ref s4.heap.objs.size)) (EP X pins σ Q) X.xe { s4 with heap := s4.heap.push { cls := .type "slice", data := .fields #[u1, u2, u3] } }
  refine tail_any (ops := [.ref p, .ref s4.heap.objs.size]) ht.typeIs (PyProof.Rows.slot_tuple_getitem.lookup) (item_back ht (Heap.IsSliceOf.new _ u1 u2 u3) k1 k2 k3 ?_ (by rw [List.size_toArray]; omega)) (by with_unfolding_all rfl)
  refine ⟨.ref _, _, I5.laid (t' := s4.toks) (o := .tup xs.reverse) (fun b ob e => Heap.get?_push_of_some _ e) (Nat.le_refl _) ?_, rfl, q _ (I5.hok.fresh (Nat.le_refl _))⟩
  refine ⟨by rw [List.length_reverse]; exact hz, _, r.reverse, ⟨_, Heap.get?_push_size _ rfl, rfl, 0, ?_⟩⟩
  simp
/-- xs[::-1], a tuple -/
def eBack (a : HX) : EX := fun δ => (a δ).bind fun p => (p.1.d p.2).bind fun x => match x with
  | .tup xs => some (.tup xs.reverse, p.2)
  | _ => none
theorem pd_back {k : Nat} {p1 p2 p3 : Pos} {ha : HX} (pa : PE X a (rdh X.K S ha)) : PE X (.Subscript a (.Slice none none (some (.UnaryOp .USub (.Constant (.int 1) k p1) p2)) p3) pos) (rd X.K S (eBack ha)) :=
  peI (pe_backT pa) fun σ H Q ⟨δ, d, δe, s, q, kk⟩ => by
    obtain ⟨⟨x, δ1⟩, q1, q⟩ := ob q
    obtain ⟨dx, q2, q⟩ := ob q
    cases dx <;> cases q
    refine ⟨δ, x, _, s, q1, fun v H1 p1 r1 => ?_⟩
    obtain ⟨p, xs, rfl, mx, rx⟩ := (r1.vw p1.sat q2).tup
    exact ⟨p, xs, rfl, mx.sq, fun l hl => kk _ _ (p1.grow (Ev.new hl)) (new_tup hl (fun a z => p1.sat.there z) rx.reverse)⟩

/-! ### repr -/
def noStr : PyData → Bool
  | .str _ => false
  | _ => true
def rRepr (K : PySem.W.Frag) : List V → Hp → VK → Prop := fun xs H Q => ∃ x p, xs = [x] ∧ Dp K H x p ∧ p.showable = true ∧ p.hasDict = false ∧ p.depth ≤ 60 ∧ p.shown.length ≤ sizeLine ∧ noStr p = true ∧ Q (.str p.shown) H
theorem call_repr (hG : X.A.guards = some []) (hu : X.A.units + 64 < cLine) : CallR X (.builtin "repr") (rRepr X.K) := fun pins s σ H xs us Q I r h => by
  obtain ⟨x, p, rfl, hp, hs, hd, hdep, hl, hn, q⟩ := h
  cases r with
  | cons r1 rr =>
    cases rr
    have fin : ∀ {h' : Heap} {u : Tok} {tk : Nat}, (∀ b o, s.heap.get? b = some o → h'.get? b = some o) → EP X pins σ Q (.str p.shown u) { s with heap := h', toks := tk } := fun {h' u tk} k => ⟨.str p.shown, H, I.kept k, ⟨u, rfl⟩, q⟩
    cases hp with
    | non => cases r1; exact PySem.P.repr_of_none (fin fun _ _ e => e)
    | bl b => cases r1; exact PySem.P.repr_of_bool (fin fun _ _ e => e)
    | int i =>
      obtain ⟨t, rfl⟩ := r1
      exact PySem.P.repr_of_int (by simpa [PyData.showable] using hs) (fin fun _ _ e => e)
    | str x => cases hn
    | lst hq hr =>
      cases r1
      obtain ⟨as, hA⟩ := Dp.reads I _ _ _ (.lst hq hr) rfl
      exact repr_of_reads' hA hs (fun z => by rw [hd] at z; cases z) hG (by omega) (fun _ _ e => e) (fun h' u tk k => fin k) hl
    | tup hq hr =>
      cases r1
      obtain ⟨as, hA⟩ := Dp.reads I _ _ _ (.tup hq hr) rfl
      exact repr_of_reads' hA hs (fun z => by rw [hd] at z; cases z) hG (by omega) (fun _ _ e => e) (fun h' u tk k => fin k) hl
def gRepr : List D → Option D
  | [d] => (toPy d).bind fun p => if p.showable && !p.hasDict && decide (p.depth ≤ 60) && decide (p.shown.length ≤ lim) && noStr p then some (.str p.shown) else none
  | _ => none
theorem d_repr : CallD K (rRepr K) gRepr := fun T H xs ds dz Q al vx e k => by
  cases vx with
  | nil => cases e
  | cons vx v2 =>
    cases v2 with
    | cons _ _ => cases e
    | nil =>
      obtain ⟨p, e1, e2⟩ := ob e
      have e2 : (if p.showable && !p.hasDict && decide (p.depth ≤ 60) && decide (p.shown.length ≤ lim) && noStr p then some (D.str p.shown) else none) = some dz := e2
      split at e2
      · rename_i c
        simp only [Bool.and_eq_true, Bool.not_eq_true', decide_eq_true_eq] at c
        cases e2
        exact ⟨_, p, rfl, dp_vw vx e1, c.1.1.1.1, c.1.1.1.2, c.1.1.2, lim_line c.1.2, c.2, k _ H Ev.refl (.str _)⟩
      · cases e2
end
end DL

/-! DLm: pairs stored by way of a tuple; minus; the built-in names. -/
namespace DL
open PySem PySem.Spec PyProof.Rows L2

section
variable {K : PySem.W.Frag} {S T : Addr → Prop} {δ δ1 δ2 δ' : DEnv} {σ : L2.St} {H H1 H2 H' : Hp} {v w : V} {d : D} {ds : List D} {DD : Ends}
variable {X : Cx} {e a b c : Expr} {pos : Pos} {i j l : Nat} {x y z : Str} {px py pz : Pos}
theorem rdS_parG {is : List Nat} {mx : MX} (h : rdS K S (sPar is mx) DD σ H) : rdM K S mx σ H fun vs H1 => vs.length = is.length ∧ ∀ H2, Ev (fun _ => False) H1 H2 → DD.nx (setV is vs σ) H2 := by
  obtain ⟨δ, f, s, q, k⟩ := h
  unfold sPar at q
  split at q
  · cases q
  · rename_i nb
    obtain ⟨⟨xs, δ1⟩, q1, q2⟩ := ob q
    split at q2
    · rename_i hl
      cases q2
      refine ⟨δ, xs, δ1, s, q1, fun vs as H1 p1 s1 nd fr m => ⟨by rw [hl]; exact m.length, fun H2 ev => ?_⟩⟩
      refine k _ H2 ((post_setN is (fun i hi => ?_) (PostS.ofE p1) s.alloc (fun x z => s.ownThere z) s1 nd fr (fun a h z => s.ownThere (own_sub p1.sub z) (fr a h)) m hl).grow ev)
      cases hb : isBor δ i with
      | false => rfl
      | true => exact absurd (List.any_eq_true.mpr ⟨i, hi, hb⟩) nb
    · cases q2
theorem psd_parT {pt p1 : Pos} {kt k2} {mx : MX} (hc : X.calm = true) (hN : X.N.Nodup) (hi : X.N[i]? = some x) (hj : X.N[j]? = some y) (hx : Loc X.env.scope x) (hy : Loc X.env.scope y) (hfx : X.fn x = true) (hfy : X.fn y = true) (ha : PA X [a, b] (rdM X.K S mx))
    (hn : (assignEach [.Name x px, .Name y py] X.env).length = 2 := by rfl) (hst : (assignEach [.Name x px, .Name y py] X.env).findIdx? (·.1) = none := by rfl)
    (h0 : (assignEach [.Name x px, .Name y py] X.env).map (·.2) = assign (.Name x px) X.env :: (assignEach [.Name y py] X.env).map (·.2) := by rfl) (h00 : (assignEach [.Name y py] X.env).map (·.2) = assign (.Name y py) X.env :: (assignEach [] X.env).map (·.2) := by rfl)
    (hs : swapsWithSole [.Tuple [.Name x px, .Name y py] kt pt] (.Tuple [a, b] k2 p1) pos.line X.env = pure false := by rfl) (hw : swappedStores [.Tuple [.Name x px, .Name y py] kt pt] (.Tuple [a, b] k2 p1) X.env = pure none := by rfl)
    (h1 : (assignEach [.Tuple [.Name x px, .Name y py] kt pt] X.env).map (·.2) = [assign (.Tuple [.Name x px, .Name y py] kt pt) X.env] := by rfl) :
    PS X (.Assign [.Tuple [.Name x px, .Name y py] kt pt] (.Tuple [a, b] k2 p1) pos) (rdS X.K S (sPar [i, j] mx)) :=
  psI (ps_asg (pe_tup ha) (pg_tup hc (pgs_cons (pg_name hN hi hx (.inl hfx)) (pgs_cons (pg_name hN hj hy (.inl hfy)) pgs_nil h00) h0) hn hst) hs hw h1) fun DD σ H h => by
    obtain ⟨δ, xs, δ1, s, q, k⟩ := rdS_parG h
    refine ⟨δ, xs, δ1, s, q, fun vs as H1 p1 s1 nd fr m => ?_⟩
    obtain ⟨hl, k2⟩ := k vs as H1 p1 s1 nd fr m
    match vs, hl, k2 with
    | [v, w], _, k2 => exact ⟨by show 2 ≤ sizeLine; decide, fun p hp => ⟨p, [v, w], rfl, .of upd_same, rfl, v, [w], rfl, w, [], rfl, rfl, k2 _ (Ev.new hp)⟩⟩
def gNeg : D → Option D
  | .int i => some (.int (-i))
  | _ => none
def eNeg (ev : EX) : EX := fun δ => (ev δ).bind fun p => (gNeg p.1).bind fun z => some (z, p.2)
theorem pd_neg {ev : EX} (h : PE X e (rd X.K S ev)) : PE X (.UnaryOp .USub e pos) (rd X.K S (eNeg ev)) := peI (pe_un un_neg h) fun σ H Q ⟨δ, d, δ', s, q, k⟩ => by
  obtain ⟨⟨x, δ1⟩, q1, q⟩ := ob q
  obtain ⟨z, q2, q⟩ := ob q
  cases q
  cases x <;> cases q2
  exact ⟨δ, _, _, s, q1, fun v H1 p1 r1 => by cases r1; exact ⟨_, rfl, k _ H1 p1 (.int _)⟩⟩
end
/-- built-in names that the program does not bind -/
structure Bl (mg : Str → Option Value) : Prop where
  len : mg "len" = none
  sum : mg "sum" = none
  range : mg "range" = none
  all : mg "all" = none
  any : mg "any" = none
  zip : mg "zip" = none
  enumerate : mg "enumerate" = none
  isinstance : mg "isinstance" = none
  int : mg "int" = none
  bool : mg "bool" = none
  list : mg "list" = none
  tuple : mg "tuple" = none
  dict : mg "dict" = none
  abs : mg "abs" = none
  min : mg "min" = none
  max : mg "max" = none
  sorted : mg "sorted" = none
  repr : mg "repr" = none
end DL

/-! DLn: the law's call, from its promise by data. -/
namespace DL
open PySem PySem.Spec PyProof.Rows L2

section
variable {P : Program} {w : World} {K : PySem.W.Frag} {mg mb : Str → Option Value} {k : Nat} {fa a : Addr} {fd : FuncData} {x : Str} {s : Shared} {vs : List Value} {ns : List Int} {H : Hp}
/-- what is tracked when the law is called -/
structure Trk (K : PySem.W.Frag) (s : Shared) (a : Addr) (vs : List Value) (H : Hp) : Prop where
  one : ∀ b, H b ≠ none → b = a ∧ K.lookup b = none
  frz : ∀ b, H b = none ∨ ∃ o xs, H b = some (.frz o (.lst xs))
theorem trk_none (t : Trk K s a vs H) (ha : s.heap.get? a = some { cls := .type "list", data := .seq vs.toArray }) {b : Addr} {o : Obj} {es : Array DictEntry} {ep : Nat} (e : s.heap.get? b = some o) (d : o.data = .dict es ep) : H b = none := by
  cases c : H b with
  | none => rfl
  | some u =>
    obtain ⟨hb, _⟩ := t.one b (by rw [c]; exact fun z => nomatch z)
    rw [hb, ha] at e
    cases e
    cases d
theorem ns_hid (t : Trk K s a vs H) (ha : s.heap.get? a = some { cls := .type "list", data := .seq vs.toArray }) {b : Addr} {m : Str → Option Value} (h : s.heap.Ns b m) : (hidT s.heap H).Ns b m := by
  obtain ⟨o, es, ep, e, d, r⟩ := h
  exact ⟨o, es, ep, hidT_get e (trk_none t ha e d), d, r⟩
theorem call_at (t : Trk K s a vs H) (KX : K.In s.heap) (hns : s.heap.Ns mainGlobals mg) (hb : s.heap.Ns builtinsNs mb) (hbb : ∀ x : Str, x ≠ "__name__" → mb x = bootBuiltins x) (hlim : s.heap.NoLimit) (hg : s.gens = #[])
    (ha : s.heap.get? a = some { cls := .type "list", data := .seq vs.toArray }) (hr : Room k callerA) (hok : HOk P w H s.heap) {sp : Sp}
    (F : ∀ base : Heap, K.In base → base.Ns mainGlobals mg → FnG P w K mg base k fa fd [x] sp) (hbind : ∀ (s : Shared) (u : Value), BindsTo s fd ⟨[u], []⟩ [(x, u)]) (hsp : sp [.ref a] H (fun v _ => v = .bl true) L2.E0) :
    codeAny (model P w) callerA (.call (.ref fa) ⟨[.ref a], []⟩) (fun r s' => r = .ok (.ret (.bool true)) ∧ OldK s.heap s'.heap ∧ s'.os = s.os ∧ AllBare s'.gens) s := by
  have inK : K.In (hidT s.heap H) := fun b o e => hidT_get (KX b o e) (by
    cases c : H b with
    | none => rfl
    | some u => obtain ⟨_, z⟩ := t.one b (by rw [c]; exact fun z => nomatch z); rw [z] at e; cases e)
  obtain ⟨mc, l1, l2⟩ := hlim
  have env : Env0 P w K mg (hidT s.heap H) callerA [] s H := {
    frames := rfl
    mod := ⟨inK, ns_hid t ha hns, ⟨mb, ns_hid t ha hb, hbb⟩, mc, ns_hid t ha l1, l2⟩
    bs := fun b o e => of_hidT e
    bsz := Nat.le_of_eq (hidT_size _ _)
    funs := trivial
    frf := fun b hb => absurd (show b ∈ ([] : List Addr) from hb) (by simp)
    hok := hok
    bare := .of_eq hg }
  have run := (F _ inK (ns_hid t ha hns)).go callerA rfl hr [] s H ⟨[.ref a], []⟩ [.ref a] [.ref a] (fun v _ => v = .bl true) L2.E0 env (hbind s (.ref a)) (.cons rfl .nil) hsp
  refine codeAny_mono run ?_
  intro r s' h
  match r, h with
  | .error e, h => exact (show False from h).elim
  | .ok .next, h => exact (show False from h).elim
  | .ok .brk, h => exact (show False from h).elim
  | .ok .cont, h => exact (show False from h).elim
  | .ok (.ret u), h =>
    obtain ⟨v, H', e1, e2, un, hok', rv, hv⟩ := h
    have hv : v = .bl true := hv
    subst hv
    have hu : u = Value.bool true := rv
    subst hu
    refine ⟨rfl, .of_keep ?_, e1, e2⟩
    intro b o e
    rcases t.frz b with z | ⟨o1, xs, z⟩
    · exact un.keep b o e z (fun q => absurd (show b ∈ ([] : List Addr) from q) (by simp)) (by simp)
    · obtain ⟨g1, _⟩ := hok b _ z
      obtain ⟨g2, _⟩ := hok' b _ (un.frzs b o1 _ z)
      rw [e] at g1
      cases g1
      exact g2
end
/-- the goal that k_head leaves -/
theorem walkG {l : PySem.W.OpenLaw} {n k : Nat} {q : Program} {loose : List Str} {XP : (Str → Option Value) → Heap → Prop} {YP : World → Heap → Prop} {d : DefRec} {K : Params → PySem.W.Frag} {x : Str} {f : List D → Option D}
    (hn : l.most = some n) (hn2 : n ≤ sizeLine) (hdf : d.params.defaults = []) (hr : Room k callerA) (hY : ∀ (w : World) (h : Heap), YP w h → (K w.params).In h)
    (F : ∀ (w : World) (mg : Str → Option Value) (fa : Addr) (h : Heap), (K w.params).In h → h.Ns mainGlobals mg → mg d.name = some (.ref fa) →
      ∃ fd : FuncData, (∀ (s : Shared) (u : Value), BindsTo s fd ⟨[u], []⟩ [(x, u)]) ∧ ∀ base : Heap, (K w.params).In base → base.Ns mainGlobals mg → FnG l.prog w (K w.params) mg base k fa fd [x] (spV 1 (K w.params) f))
    (hf : ∀ ns : List Int, ns.length ≤ n → f [.ro (ns.map .int)] = some (.bl true)) : PySem.W.WalkO q loose XP YP l.row.toRowW d [] (fun f vs => PySem.call f vs) := by
  refine Att.attach_call hn hdf ?_
  intro w s₀ s₁ mg mb fa o pm cd doc a vs ns G Y ho hd hcd hmg hobj hints hlen hg
  have KX := hY w _ Y
  obtain ⟨fd, hb, hF⟩ := F w mg fa _ KX G.T.g hmg
  have hl : ns.length ≤ sizeLine := Nat.le_trans hlen hn2
  have rv := vals_ints hints
  have lenV := hints.length
  have sp : ∀ H : Hp, MR (K w.params) H (fun _ => False) a (ns.map V.int) → spV 1 (K w.params) f [.ref a] H (fun v _ => v = .bl true) L2.E0 := fun H m =>
    ⟨rfl, fun _ => False, [.ro (ns.map .int)], .bl true, fun _ z => z.elim, .cons (.ro m (.ofInts ns)) .nil, hf ns hlen, fun v H' ev r => by cases r; rfl⟩
  cases c : (K w.params).lookup a with
  | some u =>
    have e := KX a u c
    rw [hobj] at e
    cases e
    refine call_at (H := fun _ => none) (vs := vs) ⟨fun b z => absurd rfl z, fun _ => .inl rfl⟩ KX G.T.g G.T.b G.T.builtins G.T.nolimit hg hobj hr (fun b u z => nomatch z) hF hb (sp _ (.inr ⟨_, vs.toArray, _, c, rfl, rfl, rfl, ?_, ?_⟩))
    · rw [List.size_toArray, lenV]; exact hl
    · simpa using rv
  | none =>
    refine call_at (H := fun b => if b = a then some (.frz { cls := .type "list", data := .seq vs.toArray } (.lst (ns.map V.int))) else none) (vs := vs) ⟨fun b z => ?_, fun b => ?_⟩ KX G.T.g G.T.b G.T.builtins G.T.nolimit hg hobj hr (fun b u z => ?_) hF hb (sp _ (.inl ⟨id, _, if_pos rfl⟩))
    · by_cases e : b = a
      · exact ⟨e, by rw [e]; exact c⟩
      · exact absurd (if_neg e) z
    · by_cases e : b = a
      · exact .inr ⟨_, _, if_pos e⟩
      · exact .inl (if_neg e)
    · by_cases e : b = a
      · have z' := (if_pos e).symm.trans z
        cases z'
        subst e
        exact ⟨hobj, by rw [List.length_map]; exact hl, vs, _, rv, hobj⟩
      · have z' := (if_neg e).symm.trans z
        cases z'
end DL

/-! DLo: plain lemmas about what is computed: naturals as data, loops, comprehensions. -/
namespace DL
open PySem PySem.Spec PyProof.Rows L2

/-! ### ints -/
theorem small_int {a : Int} (h : a.natAbs < 2 ^ 2000) : small a = true := decide_eq_true h
theorem small_le {a : Int} {k : Nat} (h0 : 0 ≤ a) (h : a < 2 ^ k) (hk : k ≤ 2000) : small a = true := small_int (by
  have e : ((a.natAbs : Nat) : Int) = a := by omega
  have h2 : (a.natAbs : Int) < ((2 ^ k : Nat) : Int) := by rw [e]; simpa using h
  exact Nat.lt_of_lt_of_le (by exact_mod_cast h2) (Nat.pow_le_pow_right (by decide) hk))
theorem addI (a b : Int) : gAdd (.int a) (.int b) = some (.int (a + b)) := rfl
theorem subI (a b : Int) : DL.gSub (.int a) (.int b) = some (.int (a - b)) := rfl
theorem mulI {a b : Int} (ha : small a = true) (hb : small b = true) : gMul (.int a) (.int b) = some (.int (a * b)) := by
  show (if small a && small b then some (D.int (a * b)) else none) = _
  rw [ha, hb]; rfl
theorem modI {a b : Int} (hb : 0 < b) : gMod (.int a) (.int b) = some (.int (a % b)) := by
  show (if 0 < b then some (D.int (a % b)) else none) = _
  rw [if_pos hb]
theorem divI {a b : Int} (hb : 0 < b) (h : small b = true) : gDiv (.int a) (.int b) = some (.int (a / b)) := by
  show (if decide (0 < b) && small b then some (D.int (a / b)) else none) = _
  rw [h, decide_eq_true hb]; rfl
theorem leI (a b : Int) : gLe (.int a) (.int b) = some (.bl (decide (a ≤ b))) := rfl
theorem ltI (a b : Int) : gLt (.int a) (.int b) = some (.bl (decide (a < b))) := rfl
theorem gtI (a b : Int) : gGt (.int a) (.int b) = some (.bl (decide (b < a))) := rfl
theorem geI (a b : Int) : gGe (.int a) (.int b) = some (.bl (decide (b ≤ a))) := rfl
theorem dEqI (a b : Int) : dEq (.int a) (.int b) = some (decide (a = b)) := by
  show (if SeqAt.shaped (.int a) && SeqAt.shaped (.int b) then some (PyData.eqv (.int a) (.int b)) else none) = _
  rw [show SeqAt.shaped (.int a) = true from rfl, show SeqAt.shaped (.int b) = true from rfl]
  show some (PyData.eqv (.int a) (.int b)) = _
  congr 1
theorem eqI (a b : Int) : gEq (.int a) (.int b) = some (.bl (decide (a = b))) := by
  simp only [gEq, dEqI, Option.bind_some]
theorem neI (a b : Int) : gNe (.int a) (.int b) = some (.bl (!decide (a = b))) := by
  show (dEq (.int a) (.int b)).bind _ = _
  rw [dEqI]; rfl
def iD (xs : List Int) : List D := xs.map .int
def atZ (cs : List Int) (i : Int) : Int := cs.getD i.toNat 0
theorem ixN_int {n : Nat} {i : Int} (h0 : 0 ≤ i) (h : i < n) : ixN n i = some i.toNat := by
  unfold ixN
  rw [if_pos h0, if_pos h]
theorem atI_int {α : Type} {xs : List α} {i : Int} (h0 : 0 ≤ i) (h : i < xs.length) : atI xs i = xs[i.toNat]? := by
  unfold atI; rw [ixN_int h0 h]; rfl
theorem iD_len (xs : List Int) : (iD xs).length = xs.length := by unfold iD; simp
theorem ixL {cs : List Int} {i : Int} (h0 : 0 ≤ i) (h : i < cs.length) : gIx (.lst (iD cs)) (.int i) = some (.int (atZ cs i)) := by
  show atI (iD cs) i = _
  rw [atI_int h0 (by rw [iD_len]; exact h)]
  unfold atZ iD
  have hl : i.toNat < cs.length := by omega
  rw [List.getElem?_map, List.getD_eq_getElem?_getD, List.getElem?_eq_getElem hl]; rfl
theorem ixT {cs : List Int} {i : Int} (h0 : 0 ≤ i) (h : i < cs.length) : gIx (.tup (iD cs)) (.int i) = some (.int (atZ cs i)) := ixL h0 h
theorem ixG {xs : List D} {i : Int} {d : D} (h0 : 0 ≤ i) (h : xs[i.toNat]? = some d) : gIx (.lst xs) (.int i) = some d := by
  show atI xs i = _
  have := (List.getElem?_eq_some_iff.mp h).1
  rw [atI_int h0 (by omega), h]
theorem ixGT {xs : List D} {i : Int} {d : D} (h0 : 0 ≤ i) (h : xs[i.toNat]? = some d) : gIx (.tup xs) (.int i) = some d := ixG h0 h
theorem sumI (cs : List Int) : g1 dSum [.lst (iD cs)] = some (.int cs.sum) := by
  show (asInts (cs.map D.int)).bind _ = _
  rw [asInts_map]; rfl
theorem lenL (xs : List D) : dLen (.lst xs) = some (.int xs.length) := rfl
theorem lenT (xs : List D) : dLen (.tup xs) = some (.int xs.length) := rfl
theorem intI (i : Int) : dInt (.int i) = some (.int i) := rfl
theorem upFrom_eq : ∀ (n : Nat) (lo : Int), upFrom lo n = (List.range n).map fun i => .int (lo + (i : Int))
  | 0, lo => rfl
  | n + 1, lo => by
    rw [List.range_succ_eq_map]
    show D.int lo :: upFrom (lo + 1) n = D.int (lo + ((0 : Nat) : Int)) :: _
    rw [upFrom_eq n (lo + 1), List.map_map]
    congr 1
    · congr 1; omega
    · refine List.map_congr_left fun i _ => ?_
      show D.int _ = D.int _
      congr 1
      show lo + 1 + (i : Int) = lo + ((i + 1 : Nat) : Int)
      omega
theorem fit_ok {a : Int} (h0 : -1000000000000000000 ≤ a) (h : a ≤ 1000000000000000000) : fit62 a = true := by
  have e : (2 : Int) ^ 62 = 4611686018427387904 := by decide +kernel
  unfold fit62
  rw [e, decide_eq_true (show (-4611686018427387904 : Int) ≤ a by omega), decide_eq_true (show a < (4611686018427387904 : Int) by omega)]; rfl
theorem rg1I {n : Int} (h0 : -1000000000000000000 ≤ n) (h : n ≤ 1000000000000000000) : rg1 [.int n] = some (upFrom 0 n.toNat) := by
  show (if fit62 n then some (upFrom 0 n.toNat) else none) = _
  rw [fit_ok h0 h]; rfl
theorem rg2I {a b : Int} (a0 : -1000000000000000000 ≤ a) (a1 : a ≤ 1000000000000000000) (b0 : -1000000000000000000 ≤ b) (b1 : b ≤ 1000000000000000000) : rg2 [.int a, .int b] = some (upFrom a (b - a).toNat) := by
  show (if fit62 a && fit62 b then some (upFrom a (b - a).toNat) else none) = _
  rw [fit_ok a0 a1, fit_ok b0 b1]; rfl
theorem rg3I {a b : Int} (a0 : -1000000000000000000 ≤ a) (a1 : a ≤ 1000000000000000000) (b0 : -1000000000000000000 ≤ b) (b1 : b ≤ 1000000000000000000) : rg3 [.int a, .int b, .int (-1)] = some (downFrom a (a - b).toNat) := by
  show (if fit62 a && fit62 b && decide ((-1 : Int) = -1) then some (downFrom a (a - b).toNat) else none) = _
  rw [fit_ok a0 a1, fit_ok b0 b1]; rfl
section
variable {h1 h2 h3 : HX} {δ δ1 δ2 δ3 : DEnv} {x y z : Hd} {a b : Int} {n : Nat}
theorem iR1 (e1 : h1 δ = some (x, δ1)) (d1 : x.d δ1 = some (.int a)) (a0 : 0 ≤ a) (a1 : a ≤ 1000000000000000000) (hn : a.toNat = n) : iRange rg1 (aCons h1 aNil) δ = some (upFrom 0 n, δ1) := by
  have r := rg1I (n := a) (by omega) a1
  rw [hn] at r
  simp only [iRange, aCons, aNil, e1, Option.bind_some, hds, d1, r]
theorem iR2 (e1 : h1 δ = some (x, δ1)) (e2 : h2 δ1 = some (y, δ2)) (d1 : x.d δ2 = some (.int a)) (d2 : y.d δ2 = some (.int b)) (a0 : -1000000000000000000 ≤ a) (a1 : a ≤ 1000000000000000000) (b0 : -1000000000000000000 ≤ b) (b1 : b ≤ 1000000000000000000) (hn : (b - a).toNat = n) :
    iRange rg2 (aCons h1 (aCons h2 aNil)) δ = some (upFrom a n, δ2) := by
  have r := rg2I a0 a1 b0 b1
  rw [hn] at r
  simp only [iRange, aCons, aNil, e1, e2, Option.bind_some, hds, d1, d2, r]
theorem iR3 (e1 : h1 δ = some (x, δ1)) (e2 : h2 δ1 = some (y, δ2)) (e3 : h3 δ2 = some (z, δ3)) (d1 : x.d δ3 = some (.int a)) (d2 : y.d δ3 = some (.int b)) (d3 : z.d δ3 = some (.int (-1))) (a0 : -1000000000000000000 ≤ a) (a1 : a ≤ 1000000000000000000) (b0 : -1000000000000000000 ≤ b) (b1 : b ≤ 1000000000000000000) (hn : (a - b).toNat = n) :
    iRange rg3 (aCons h1 (aCons h2 (aCons h3 aNil))) δ = some (downFrom a n, δ3) := by
  have r := rg3I a0 a1 b0 b1
  rw [hn] at r
  simp only [iRange, aCons, aNil, e1, e2, e3, Option.bind_some, hds, d1, d2, d3, r]
end
theorem cut_from1 (xs : List D) : DL.cutD xs (some 1) none = xs.drop 1 := by
  unfold DL.cutD
  rw [show HT.sIx xs.length 0 (some 1) = min 1 xs.length from HT.sIx_nat xs.length 0 1, HT.sIx_none]
  cases xs with
  | nil => rfl
  | cons x r => simp
theorem cut_to (xs : List D) (k : Nat) : DL.cutD xs none (some (k : Int)) = xs.take k := by
  unfold DL.cutD
  rw [HT.sIx_none, HT.sIx_nat, List.drop_zero, Nat.sub_zero]
  rcases Nat.le_total k xs.length with h | h
  · rw [Nat.min_eq_left h]
  · rw [Nat.min_eq_right h, List.take_length, List.take_of_length_le h]
theorem cut_from (xs : List D) (k : Nat) : DL.cutD xs (some (k : Int)) none = xs.drop k := by
  unfold DL.cutD
  rw [HT.sIx_none, HT.sIx_nat]
  rcases Nat.le_total k xs.length with h | h
  · rw [Nat.min_eq_left h]; exact List.take_of_length_le (by simp)
  · rw [Nat.min_eq_right h, List.drop_length, List.drop_of_length_le h]; simp
theorem zipD_map {α β : Type} (f : α → D) (g : β → D) : ∀ (xs : List α) (ys : List β), zipD (xs.map f) (ys.map g) = (xs.zip ys).map fun q => .tup [f q.1, g q.2]
  | [], _ => by simp [zipD]
  | _ :: _, [] => by simp [zipD]
  | x :: xs, y :: ys => by simp [zipD, zipD_map f g xs ys]
theorem fmap_some {α : Type} (f : α → D) : ∀ (xs : List α), xs.filterMap (fun x => some (f x)) = xs.map f
  | [] => rfl
  | x :: xs => by show f x :: xs.filterMap (fun x => some (f x)) = _; rw [fmap_some f xs]; rfl
theorem all_bls (bs : List Bool) : g1 dAll [.lst (bs.map .bl)] = some (.bl (bs.all id)) := by
  show ((asBls (bs.map D.bl)).map fun ns => D.bl (ns.all id)) = _
  rw [asBls_map]; rfl
theorem any_bls (bs : List Bool) : g1 dAny [.lst (bs.map .bl)] = some (.bl (bs.any id)) := by
  show ((asBls (bs.map D.bl)).map fun ns => D.bl (ns.any id)) = _
  rw [asBls_map]; rfl

/-! ### loops -/
theorem loopS_ix {tx : TX} {body : SX} (P : Nat → DEnv → Prop) : ∀ (ds : List D) (k : Nat) (δ : DEnv), P k δ →
    (∀ i d δ, ds[i]? = some d → P (k + i) δ → ∃ δ1 f δ2, tx d δ = some δ1 ∧ body δ1 = some f ∧ (f = .nx δ2 ∨ f = .ct δ2) ∧ P (k + i + 1) δ2) → ∃ δ', loopS tx body ds δ = some (.nx δ') ∧ P (k + ds.length) δ'
  | [], k, δ, p, _ => ⟨δ, rfl, p⟩
  | d :: ds, k, δ, p, h => by
    obtain ⟨δ1, f, δ2, e1, e2, e3, p2⟩ := h 0 d δ rfl p
    obtain ⟨δ', e4, p4⟩ := loopS_ix P ds (k + 1) δ2 p2 fun i d δ hd hp => by
      have q := h (i + 1) d δ (by simpa using hd)
      have e : k + (i + 1) = k + 1 + i := by omega
      rw [e] at q
      exact q hp
    refine ⟨δ', ?_, by rw [List.length_cons, show k + (ds.length + 1) = k + 1 + ds.length by omega]; exact p4⟩
    show (tx d δ).bind _ = _
    rw [e1]
    show (body δ1).bind _ = _
    rw [e2]
    rcases e3 with rfl | rfl <;> exact e4
/-- over lo, lo + 1, .. -/
theorem loopS_up {tx : TX} {body : SX} (P : Nat → DEnv → Prop) (lo : Int) (n : Nat) (δ : DEnv) (h0 : P 0 δ) (h : ∀ (i : Nat) δ, i < n → P i δ → ∃ δ1 f δ2, tx (.int (lo + i)) δ = some δ1 ∧ body δ1 = some f ∧ (f = .nx δ2 ∨ f = .ct δ2) ∧ P (i + 1) δ2) :
    ∃ δ', loopS tx body (upFrom lo n) δ = some (.nx δ') ∧ P n δ' := by
  have := loopS_ix P (upFrom lo n) 0 δ h0 fun i d δ hd hp => by
    have hi : i < n := by have := (List.getElem?_eq_some_iff.mp hd).1; rw [upFrom_length] at this; exact this
    rw [upFrom_get n lo i hi] at hd
    cases hd
    rw [Nat.zero_add] at hp ⊢
    exact h i δ hi hp
  rw [upFrom_length, Nat.zero_add] at this
  exact this
/-- over the items of a list, by what was walked -/
theorem loopS_pre {α : Type} {tx : TX} {body : SX} (g : α → D) (P : List α → DEnv → Prop) : ∀ (xs pre : List α) (δ : DEnv), P pre δ →
    (∀ p x q δ, pre ++ xs = p ++ x :: q → pre.length ≤ p.length → P p δ → ∃ δ1 f δ2, tx (g x) δ = some δ1 ∧ body δ1 = some f ∧ (f = .nx δ2 ∨ f = .ct δ2) ∧ P (p ++ [x]) δ2) → ∃ δ', loopS tx body (xs.map g) δ = some (.nx δ') ∧ P (pre ++ xs) δ'
  | [], pre, δ, p, _ => ⟨δ, rfl, by rw [List.append_nil]; exact p⟩
  | x :: xs, pre, δ, p, h => by
    obtain ⟨δ1, f, δ2, e1, e2, e3, p2⟩ := h pre x xs δ rfl (Nat.le_refl _) p
    obtain ⟨δ', e4, p4⟩ := loopS_pre g P xs (pre ++ [x]) δ2 p2 fun p y q δ e hl hp => h p y q δ (by rw [← e, List.append_assoc]; rfl) (by simp at hl; omega) hp
    refine ⟨δ', ?_, by rw [List.append_assoc] at p4; exact p4⟩
    show (tx (g x) δ).bind _ = _
    rw [e1]
    show (body δ1).bind _ = _
    rw [e2]
    rcases e3 with rfl | rfl <;> exact e4
/-- a comprehension that leaves the frame as it is -/
theorem loopC_pure {α : Type} {tx : TX} {bx : BX} {ev : EX} {vs : List Nat} {δ : DEnv} (g : α → D) (t : α → Option D) : ∀ (xs : List α) (acc : List D),
    (∀ x ∈ xs, ∃ δ1, tx (g x) δ = some δ1 ∧ ((t x = none ∧ ∃ δ2, bx δ1 = some (false, δ2) ∧ wipeD δ2 vs = δ) ∨ ∃ z δ2 δ3, t x = some z ∧ bx δ1 = some (true, δ2) ∧ ev δ2 = some (z, δ3) ∧ wipeD δ3 vs = δ)) → acc.length + xs.length ≤ lim →
    loopC tx bx ev vs (xs.map g) δ acc = some (acc ++ xs.filterMap t, δ)
  | [], acc, _, _ => by simp [loopC]
  | x :: xs, acc, h, hl => by
    obtain ⟨δ1, e1, e2⟩ := h x List.mem_cons_self
    have hl' : acc.length + xs.length + 1 ≤ lim := by rw [List.length_cons] at hl; omega
    show (tx (g x) δ).bind _ = _
    rw [e1]
    show (bx δ1).bind _ = _
    rcases e2 with ⟨e3, δ2, e4, e5⟩ | ⟨z, δ2, δ3, e3, e4, e5, e6⟩
    · rw [e4]
      show loopC tx bx ev vs (xs.map g) (wipeD δ2 vs) acc = _
      rw [e5, loopC_pure g t xs acc (fun x hx => h x (List.mem_cons_of_mem _ hx)) (by omega), List.filterMap_cons_none e3]
    · rw [e4]
      show (ev δ2).bind _ = _
      rw [e5]
      show (if acc.length < lim then loopC tx bx ev vs (xs.map g) (wipeD δ3 vs) (acc ++ [z]) else none) = _
      rw [if_pos (by omega), e6, loopC_pure g t xs (acc ++ [z]) (fun x hx => h x (List.mem_cons_of_mem _ hx)) (by simp; omega), List.filterMap_cons_some e3, List.append_assoc]
      rfl
theorem oLc_pure {α : Type} {ix : IX} {tx : TX} {bx : BX} {ev : EX} {vs : List Nat} {δ0 δ : DEnv} (g : α → D) (t : α → Option D) (xs : List α) (hi : ix δ0 = some (xs.map g, δ)) (hw : wipeD δ vs = δ) (hno : noOwn δ vs = true) (hb : backD δ δ vs = δ)
    (h : ∀ x ∈ xs, ∃ δ1, tx (g x) δ = some δ1 ∧ ((t x = none ∧ ∃ δ2, bx δ1 = some (false, δ2) ∧ wipeD δ2 vs = δ) ∨ ∃ z δ2 δ3, t x = some z ∧ bx δ1 = some (true, δ2) ∧ ev δ2 = some (z, δ3) ∧ wipeD δ3 vs = δ)) (hl : xs.length ≤ lim) :
    oLc ix tx bx ev vs δ0 = some (.lst (xs.filterMap t), δ) := by
  unfold oLc
  rw [hi]
  show (if noOwn δ vs then (loopC tx bx ev vs (xs.map g) (wipeD δ vs) []).bind fun q => some (Ct.lst q.1, backD δ q.2 vs) else none) = _
  rw [if_pos hno, hw, loopC_pure g t xs [] h (by simpa using hl)]
  show some (Ct.lst ([] ++ xs.filterMap t), backD δ δ vs) = _
  rw [hb]; rfl
theorem fmap_int {α : Type} (t : α → Option Int) (xs : List α) : xs.filterMap (fun x => (t x).map D.int) = iD (xs.filterMap t) := by
  unfold iD; rw [List.map_filterMap]

/-! ### what a block comes to -/
def Wp (sx : SX) (δ : DEnv) (Q : Fl → Prop) : Prop := ∃ f, sx δ = some f ∧ Q f
section
variable {sx sa sb : SX} {δ δ1 δ2 : DEnv} {Q Q' : Fl → Prop} {bx : BX} {tx : TX} {ix : IX} {ev : EX} {b : Bool} {d : D} {c : Ct} {i n : Nat} {ds : List D}
theorem Wp.mono (h : Wp sx δ Q) (k : ∀ f, Q f → Q' f) : Wp sx δ Q' := let ⟨f, e, q⟩ := h; ⟨f, e, k f q⟩
theorem wp_at {f : Fl} (e : sx δ = some f) (q : Q f) : Wp sx δ Q := ⟨f, e, q⟩
theorem wp_seq (h : Wp sa δ fun f => match f with
    | .nx δ1 => Wp sb δ1 Q
    | f => Q f) : Wp (sSeq sa sb) δ Q := by
  obtain ⟨f, e, q⟩ := h
  cases f with
  | nx δ1 => obtain ⟨g, e2, q2⟩ := q; exact ⟨g, by unfold sSeq; rw [e]; exact e2, q2⟩
  | bk δ1 => exact ⟨_, by unfold sSeq; rw [e]; rfl, q⟩
  | ct δ1 => exact ⟨_, by unfold sSeq; rw [e]; rfl, q⟩
  | rt r δ1 => exact ⟨_, by unfold sSeq; rw [e]; rfl, q⟩
/-- a statement that goes on, then the rest -/
theorem wp_nx (e : sa δ = some (.nx δ1)) (h : Wp sb δ1 Q) : Wp (sSeq sa sb) δ Q := wp_seq ⟨_, e, h⟩
theorem wp_if (e : bx δ = some (b, δ1)) (ht : b = true → Wp sa δ1 Q) (hf : b = false → Wp sb δ1 Q) : Wp (sIf bx sa sb) δ Q := by
  cases b with
  | true => obtain ⟨f, e2, q⟩ := ht rfl; exact ⟨f, by unfold sIf; rw [e]; exact e2, q⟩
  | false => obtain ⟨f, e2, q⟩ := hf rfl; exact ⟨f, by unfold sIf; rw [e]; exact e2, q⟩
theorem wp_t (e : bx δ = some (true, δ1)) (h : Wp sa δ1 Q) : Wp (sIf bx sa sb) δ Q := wp_if e (fun _ => h) fun z => by cases z
theorem wp_f (e : bx δ = some (false, δ1)) (h : Wp sb δ1 Q) : Wp (sIf bx sa sb) δ Q := wp_if e (fun z => by cases z) fun _ => h
theorem wp_next (q : Q (.nx δ)) : Wp sNext δ Q := ⟨_, rfl, q⟩
theorem wp_ret (e : ev δ = some (d, δ1)) (q : Q (.rt (.p d) δ1)) : Wp (sRet ev) δ Q := ⟨_, by unfold sRet; rw [e]; rfl, q⟩
theorem wp_drop (e : ev δ = some (d, δ1)) (q : Q (.nx δ1)) : Wp (sDrop ev) δ Q := ⟨_, by unfold sDrop; rw [e]; rfl, q⟩
theorem wp_set (e : ev δ = some (d, δ1)) (b1 : isBor δ i = false) (b2 : isBor δ1 i = false) (q : Q (.nx (δ1.set i (some (.p d))))) : Wp (sSet i ev) δ Q := ⟨_, by unfold sSet; rw [e]; show (if isBor δ i || isBor δ1 i then none else _) = _; rw [b1, b2]; rfl, q⟩
theorem wp_setO {ox : OX} (e : ox δ = some (c, δ1)) (b1 : isBor δ i = false) (b2 : isBor δ1 i = false) (q : Q (.nx (δ1.set i (some (.o c))))) : Wp (sSetO i ox) δ Q := ⟨_, by unfold sSetO; rw [e]; show (if isBor δ i || isBor δ1 i then none else _) = _; rw [b1, b2]; rfl, q⟩
theorem hName_own (h : ownC δ i = some c) : hName i δ = some (.nm i, δ) := by
  unfold ownC at h
  unfold hName
  split at h
  · rename_i e; rw [e]
  · rename_i e; rw [e]
  · cases h
theorem wp_app {ds0 : List D} (e0 : ownC δ i = some (.lst ds0)) (e : ev δ = some (d, δ1)) (e1 : ownC δ1 i = some (.lst ds)) (hl : ds.length < lim) (q : Q (.nx (putC δ1 i (.lst (ds ++ [d]))))) : Wp (sApp i ev) δ Q := by
  refine ⟨_, ?_, q⟩
  unfold sApp
  rw [hName_own e0]
  show (match ownC δ i with
    | some (.lst _) => (ev δ).bind fun p => match ownC p.2 i with
      | some (.lst ds) => if ds.length < lim then some (Fl.nx (putC p.2 i (.lst (ds ++ [p.1])))) else none
      | _ => none
    | _ => none) = _
  rw [e0]
  show (ev δ).bind _ = _
  rw [e]
  show (match ownC δ1 i with
      | some (.lst ds) => if ds.length < lim then some (Fl.nx (putC δ1 i (.lst (ds ++ [d])))) else none
      | _ => none) = _
  rw [e1]
  show (if ds.length < lim then _ else _) = _
  rw [if_pos hl]
theorem wp_put {kx : HX} {h : Hd} {k : Int} {j : Nat} {c0 : Ct} (e : ev δ = some (d, δ1)) (e0 : ownC δ1 i = some c0) (ek : kx δ1 = some (h, δ2)) (kd : h.d δ2 = some (.int k)) (e1 : ownC δ2 i = some (.lst ds)) (hj : ixN ds.length k = some j) (q : Q (.nx (putC δ2 i (.lst (ds.set j d))))) : Wp (sPut i kx ev) δ Q := by
  refine ⟨_, ?_, q⟩
  unfold sPut
  rw [e]
  show (hName i δ1).bind _ = _
  rw [hName_own e0]
  show (kx δ1).bind _ = _
  rw [ek]
  show (h.d δ2).bind _ = _
  rw [kd]
  show (match (D.int k), ownC δ2 i with
    | .int k, some (.lst ds) => (ixN ds.length k).bind fun j => some (Fl.nx (putC δ2 i (.lst (ds.set j d))))
    | _, _ => none) = _
  rw [e1]
  show (ixN ds.length k).bind _ = _
  rw [hj]; rfl
theorem wp_aug {g : Int → Int → Int} {a b : Int} (e0 : δ[i]? = some (some (.p (.int a)))) (e : ev δ = some (.int b, δ1)) (nb : isBor δ1 i = false) (q : Q (.nx (δ1.set i (some (.p (.int (g a b))))))) : Wp (sAug g i ev) δ Q := by
  refine ⟨_, ?_, q⟩
  unfold sAug
  rw [e0]
  show (ev δ).bind _ = _
  rw [e]
  show (if isBor δ1 i then none else _) = _
  rw [nb]; rfl
theorem wp_par {is : List Nat} {mx : MX} {xs : List Sl} (nb : is.any (isBor δ) = false) (e : mx δ = some (xs, δ1)) (hl : is.length = xs.length) (q : Q (.nx (setN is xs δ1))) : Wp (sPar is mx) δ Q := by
  refine ⟨_, ?_, q⟩
  unfold sPar
  rw [nb, e]
  show (if is.length = xs.length then _ else _) = _
  rw [if_pos hl]
/-- for over the items of a list -/
theorem wp_for {α : Type} (g : α → D) (P : List α → DEnv → Prop) (xs : List α) (hi : ix δ = some (xs.map g, δ1)) (h0 : P [] δ1) (hs : ∀ p x q δ, xs = p ++ x :: q → P p δ → ∃ δ2, tx (g x) δ = some δ2 ∧ Wp sa δ2 fun f => ∃ δ3, (f = .nx δ3 ∨ f = .ct δ3) ∧ P (p ++ [x]) δ3)
    (hq : ∀ δ', P xs δ' → Q (.nx δ')) : Wp (sFor ix tx sa) δ Q := by
  obtain ⟨δ', e, p⟩ := loopS_pre (tx := tx) (body := sa) g P xs [] δ1 h0 fun p x q δ e _ hp => by
    obtain ⟨δ2, e1, f, e2, δ3, e3, p3⟩ := hs p x q δ (by simpa using e) hp
    exact ⟨δ2, f, δ3, e1, e2, e3, p3⟩
  exact ⟨_, by unfold sFor; rw [hi]; exact e, hq δ' (by simpa using p)⟩
/-- for over lo, lo + 1, .. -/
theorem wp_up (P : Nat → DEnv → Prop) (lo : Int) (n : Nat) (hi : ix δ = some (upFrom lo n, δ1)) (h0 : P 0 δ1) (hs : ∀ (i : Nat) δ, i < n → P i δ → ∃ δ2, tx (.int (lo + i)) δ = some δ2 ∧ Wp sa δ2 fun f => ∃ δ3, (f = .nx δ3 ∨ f = .ct δ3) ∧ P (i + 1) δ3)
    (hq : ∀ δ', P n δ' → Q (.nx δ')) : Wp (sFor ix tx sa) δ Q := by
  obtain ⟨δ', e, p⟩ := loopS_up (tx := tx) (body := sa) P lo n δ1 h0 fun i δ h hp => by
    obtain ⟨δ2, e1, f, e2, δ3, e3, p3⟩ := hs i δ h hp
    exact ⟨δ2, f, δ3, e1, e2, e3, p3⟩
  exact ⟨_, by unfold sFor; rw [hi]; exact e, hq δ' p⟩
/-- while: m turns at most -/
theorem wp_while (P : Nat → DEnv → Prop) : ∀ (N : Nat) {δ : DEnv} (m : Nat), m < N → P m δ → (∀ m δ, P m δ → ∃ b δ1, bx δ = some (b, δ1) ∧ (b = false → Q (.nx δ1)) ∧ (b = true → Wp sa δ1 fun f => ∃ δ3 m', (f = .nx δ3 ∨ f = .ct δ3) ∧ m' < m ∧ P m' δ3)) → Wp (loopW bx sa N) δ Q
  | 0, δ, m, h, _, _ => by omega
  | N + 1, δ, m, h, p, hs => by
    obtain ⟨b, δ1, e, hf, ht⟩ := hs m δ p
    cases b with
    | false => exact ⟨_, by unfold loopW; rw [e]; rfl, hf rfl⟩
    | true =>
      obtain ⟨f, e2, δ3, m', e3, hm, p3⟩ := ht rfl
      obtain ⟨f', e4, q⟩ := wp_while P N (δ := δ3) m' (by omega) p3 hs
      refine ⟨f', ?_, q⟩
      unfold loopW
      rw [e]
      show (sa δ1).bind _ = _
      rw [e2]
      rcases e3 with rfl | rfl <;> exact e4
theorem runV_wp {sx : SX} (h : Wp sx (env0 n (ds.map .p)) fun f => (∃ δ, f = .rt (.p d) δ) ∨ (d = .non ∧ ∃ δ, f = .nx δ)) : runV n sx ds = some d := by
  obtain ⟨f, e, q⟩ := h
  unfold runV
  rw [e]
  rcases q with ⟨δ, rfl⟩ | ⟨rfl, δ, rfl⟩ <;> rfl
theorem runO_wp {sx : SX} {c : Ct} (h : Wp sx (env0 n (ds.map .p)) fun f => ∃ δ, f = .rt (.o c) δ) : runO n sx ds = some c := by
  obtain ⟨f, e, δ, rfl⟩ := h
  unfold runO
  rw [e]; rfl
theorem runR_wp {sx : SX} {c c' : Ct} (h : Wp sx (env0 n (.b c :: ds.map .p)) fun f => ∃ δ, (f = .rt (.p d) δ ∨ (d = .non ∧ f = .nx δ)) ∧ headB δ = some c') : runR n sx c ds = some (d, c') := by
  obtain ⟨f, e, δ, h1, h2⟩ := h
  unfold runR
  rw [e]
  rcases h1 with rfl | ⟨rfl, rfl⟩
  · show (headB δ).bind _ = _; rw [h2]; rfl
  · show (headB δ).bind _ = _; rw [h2]; rfl
end

/-! ### expressions, part by part (so that nothing is unfolded behind a call) -/
section
variable {F : List D → Option D} {FR : Ct → List D → Option (D × Ct)} {mx : MX} {t : AX} {δ δ1 δ2 δ3 : DEnv} {ds : List D} {d d1 d2 : D} {e : EX} {o : OX} {hs : List Hd} {x y : Hd} {xs : List Sl} {c c' : Ct} {i : Nat} {h1 h2 : HX}
theorem a_nil : aNil δ = some ([], δ) := rfl
theorem a_val (h : e δ = some (d, δ1)) (k : t δ1 = some (hs, δ2)) : aCons (hVal e) t δ = some (.val d :: hs, δ2) := by simp only [aCons, hVal, h, Option.bind_some, k]
theorem a_nm (h : hName i δ = some (x, δ)) (k : t δ = some (hs, δ2)) : aCons (hName i) t δ = some (x :: hs, δ2) := by simp only [aCons, h, Option.bind_some, k]
theorem o_lst (h : t δ = some (hs, δ1)) (v : vals hs = some ds) (l : ds.length ≤ lim) : oLst t δ = some (.lst ds, δ1) := by simp only [oLst, h, Option.bind_some, v, if_pos l]
theorem e_tup (h : t δ = some (hs, δ1)) (v : vals hs = some ds) (l : ds.length ≤ lim) : eTup t δ = some (.tup ds, δ1) := by simp only [eTup, h, Option.bind_some, v, if_pos l]
theorem e_own (h : o δ = some (c, δ1)) : eOwn o δ = some (c.d, δ1) := by simp only [eOwn, h, Option.bind_some]
theorem m_nil : mNil δ = some ([], δ) := rfl
theorem m_p (h : e δ = some (d, δ1)) (k : mx δ1 = some (xs, δ2)) : mP e mx δ = some (.p d :: xs, δ2) := by simp only [mP, h, Option.bind_some, k]
theorem m_o (h : o δ = some (c, δ1)) (k : mx δ1 = some (xs, δ2)) : mO o mx δ = some (.o c :: xs, δ2) := by simp only [mO, h, Option.bind_some, k]
theorem e_fn (h : mx δ = some (xs, δ1)) (v : eArgs.dsOf xs = some ds) (f : F ds = some d) : eFn F mx δ = some (d, δ1) := by simp only [eFn, eArgs, h, Option.bind_some, v, f]
theorem e_ref {c2 : Ct} (c0 : ownC δ i = some c') (h : mx δ = some (xs, δ1)) (v : eArgs.dsOf xs = some ds) (c1 : ownC δ1 i = some c) (f : FR c ds = some (d, c2)) (hp : putC δ1 i c2 = δ2) : eRef FR i mx δ = some (d, δ2) := by
  simp only [eRef, c0, eArgs, h, Option.bind_some, v, c1, f, hp]
theorem o_fn {F : List D → Option Ct} (h : mx δ = some (xs, δ1)) (v : eArgs.dsOf xs = some ds) (f : F ds = some c) : oFn F mx δ = some (c, δ1) := by simp only [oFn, eArgs, h, Option.bind_some, v, f]
theorem e_call {g : List D → Option D} (h : t δ = some (hs, δ1)) (v : hds δ1 hs = some ds) (f : g ds = some d) : eCall g t δ = some (d, δ1) := by simp only [eCall, h, Option.bind_some, v, f]
theorem o_call {g : List D → Option Ct} (h : t δ = some (hs, δ1)) (v : hds δ1 hs = some ds) (f : g ds = some c) : oCall g t δ = some (c, δ1) := by simp only [oCall, h, Option.bind_some, v, f]
theorem h_val (h : e δ = some (d, δ1)) : hVal e δ = some (.val d, δ1) := by simp only [hVal, h, Option.bind_some]
theorem e_op {g : D → D → Option D} (h : h1 δ = some (x, δ1)) (k : h2 δ1 = some (y, δ2)) (vx : x.d δ2 = some d1) (vy : y.d δ2 = some d2) (f : g d1 d2 = some d) : eOp g h1 h2 δ = some (d, δ2) := by simp only [eOp, h, k, Option.bind_some, vx, vy, f]
theorem o_op {g : D → D → Option Ct} (h : h1 δ = some (x, δ1)) (k : h2 δ1 = some (y, δ2)) (vx : x.d δ2 = some d1) (vy : y.d δ2 = some d2) (f : g d1 d2 = some c) : oOp g h1 h2 δ = some (c, δ2) := by simp only [oOp, h, k, Option.bind_some, vx, vy, f]
theorem b_e {b : Bool} (h : e δ = some (.bl b, δ1)) : bE e δ = some (b, δ1) := by simp only [bE, h, Option.bind_some]
theorem b_not {b : Bool} {a : BX} (h : a δ = some (b, δ1)) : bNot a δ = some (!b, δ1) := by simp only [bNot, h, Option.bind_some]
theorem b_and_t {a b : BX} {r : Bool × DEnv} (h : a δ = some (true, δ1)) (k : b δ1 = some r) : bAnd a b δ = some r := by simp only [bAnd, h, Option.bind_some, k]
theorem b_and_f {a b : BX} (h : a δ = some (false, δ1)) : bAnd a b δ = some (false, δ1) := by simp only [bAnd, h, Option.bind_some]
theorem b_or_t {a b : BX} (h : a δ = some (true, δ1)) : bOr a b δ = some (true, δ1) := by simp only [bOr, h, Option.bind_some]
theorem b_or_f {a b : BX} {r : Bool × DEnv} (h : a δ = some (false, δ1)) (k : b δ1 = some r) : bOr a b δ = some r := by simp only [bOr, h, Option.bind_some, k]
theorem ev_p (h : δ[i]? = some (some (.p d))) : eVar i δ = some (d, δ) := by simp only [eVar, h]
theorem ev_o (h : δ[i]? = some (some (.o c))) : eVar i δ = some (c.d, δ.set i (some (.p c.d))) := by simp only [eVar, h]
end
end DL

/-! DLp: data that repr tells: two alike are told alike. -/
namespace DL
open PySem PySem.Spec PyProof.Rows L2

theorem slen_app (a b : Str) : (a ++ b).length = a.length + b.length := strLen_append a b
theorem text_up : ∀ (ts : List Str) (k : Nat) (acc : Str), (textFrom k acc ts).length ≤ acc.length + (ts.map fun t => t.length + 2).sum
  | [], k, acc => by show acc.length ≤ acc.length + 0; omega
  | t :: ts, k, acc => by
    have h := text_up ts (k + 1) (acc ++ (if k > 0 then ", " else "" : String) ++ t)
    have e : (acc ++ (if k > 0 then ", " else "" : String) ++ t).length ≤ acc.length + 2 + t.length := by
      rw [slen_app, slen_app]
      by_cases c : k > 0
      · rw [if_pos c]; have : ((", " : String) : Str).length = 2 := rfl; omega
      · rw [if_neg c]; have : (("" : String) : Str).length = 0 := rfl; omega
    show (textFrom (k + 1) _ ts).length ≤ _
    rw [List.map_cons, List.sum_cons]
    omega
theorem list_up (ts : List Str) : (listText ts).length ≤ (ts.map fun t => t.length + 2).sum + 2 := by
  unfold listText
  rw [slen_app]
  have h := text_up ts 0 "["
  have e1 : (("[" : String) : Str).length = 1 := rfl
  have e2 : (("]" : String) : Str).length = 1 := rfl
  omega
theorem tuple_up (ts : List Str) : (tupleText ts).length ≤ (ts.map fun t => t.length + 2).sum + 3 := by
  unfold tupleText
  rw [slen_app, slen_app]
  have e1 : (("(" : String) : Str).length = 1 := rfl
  have e2 : ((if ts.length == 1 then ",)" else ")" : String) : Str).length ≤ 2 := by split <;> decide
  have e3 : (Str.join ", " ts).length ≤ (ts.map fun t => t.length + 2).sum := by
    cases ts with
    | nil => exact Nat.zero_le _
    | cons t r =>
      have := join_length_add (t :: r) (by simp)
      have e : piled (t :: r) = ((t :: r).map fun t => t.length + 2).sum := rfl
      omega
  omega
mutual
/-- a bound of the length of what repr tells; none: not told here -/
def wt : D → Option Nat
  | .non => some 6
  | .bl _ => some 6
  | .int i => if i.natAbs.log2 < 1920 then some 1922 else none
  | .lst xs => (wtA xs).map (· + 3)
  | .tup xs => (wtA xs).map (· + 3)
  | _ => none
def wtA : List D → Option Nat
  | [] => some 0
  | x :: xs => (wt x).bind fun a => (wtA xs).map fun b => a + 2 + b
end
mutual
theorem wt_ok : ∀ {d : D} {w : Nat}, wt d = some w → ∃ p, toPy d = some p ∧ p.showable = true ∧ p.hasDict = false ∧ p.canLay0 = true ∧ p.shown.length ≤ w ∧ noStr p = true
  | .non, w, h => by cases h; exact ⟨_, rfl, rfl, rfl, rfl, by decide, rfl⟩
  | .bl b, w, h => by cases h; exact ⟨_, rfl, rfl, rfl, rfl, by cases b <;> decide, rfl⟩
  | .int i, w, h => by
    have h' : (if i.natAbs.log2 < 1920 then some 1922 else none) = some w := h
    split at h'
    · rename_i c
      cases h'
      refine ⟨.int i, rfl, by simp [PyData.showable, c], rfl, rfl, ?_, rfl⟩
      have := int_text_length_le (a := i) (k := 1920) (by decide) c
      show (Str.ofString (toString i)).length ≤ 1922
      rw [PySem.ofString_length]
      omega
    · cases h'
  | .lst xs, w, h => by
    obtain ⟨a, e1, e2⟩ := Option.map_eq_some_iff.mp h
    subst e2
    obtain ⟨ps, q1, q2, q3, q4, q5⟩ := wtA_ok e1
    refine ⟨.list ps, by show (toPyA xs).bind _ = _; rw [q1]; rfl, by simpa [PyData.showable] using q2, by simpa [PyData.hasDict] using q3, by simpa [PyData.canLay0] using q4, ?_, rfl⟩
    have := list_up (PyData.shownAll ps)
    show (listText (PyData.shownAll ps)).length ≤ _
    omega
  | .tup xs, w, h => by
    obtain ⟨a, e1, e2⟩ := Option.map_eq_some_iff.mp h
    subst e2
    obtain ⟨ps, q1, q2, q3, q4, q5⟩ := wtA_ok e1
    refine ⟨.tuple ps, by show (toPyA xs).bind _ = _; rw [q1]; rfl, by simpa [PyData.showable] using q2, by simpa [PyData.hasDict] using q3, by simpa [PyData.canLay0] using q4, ?_, rfl⟩
    have := tuple_up (PyData.shownAll ps)
    show (tupleText (PyData.shownAll ps)).length ≤ _
    omega
  | .str _, w, h => by cases h
  | .dk _ _, w, h => by cases h
  | .dt _ _, w, h => by cases h
  | .fn _, w, h => by cases h
  | .ty _, w, h => by cases h
  | .ro _, w, h => by cases h
theorem wtA_ok : ∀ {ds : List D} {w : Nat}, wtA ds = some w → ∃ ps, toPyA ds = some ps ∧ PyData.showableAll ps = true ∧ PyData.hasDictAll ps = false ∧ PyData.canLayAll0 ps = true ∧ ((PyData.shownAll ps).map fun t => t.length + 2).sum ≤ w
  | [], w, h => by cases h; exact ⟨[], rfl, rfl, rfl, rfl, Nat.le_refl _⟩
  | d :: ds, w, h => by
    obtain ⟨a, e1, e2⟩ := ob h
    obtain ⟨b, e3, e4⟩ := Option.map_eq_some_iff.mp e2
    subst e4
    obtain ⟨p, p1, p2, p3, p4, p5, _⟩ := wt_ok e1
    obtain ⟨ps, q1, q2, q3, q4, q5⟩ := wtA_ok e3
    refine ⟨p :: ps, by show (toPy d).bind _ = _; rw [p1]; show (toPyA ds).bind _ = _; rw [q1]; rfl, by simp [PyData.showableAll, p2, q2], by simp [PyData.hasDictAll, p3, q3], by simp [PyData.canLayAll0, p4, q4], ?_⟩
    show ((PyData.shown p :: PyData.shownAll ps).map fun t => t.length + 2).sum ≤ _
    rw [List.map_cons, List.sum_cons]
    omega
end
mutual
/-- how deep lists lie in one another -/
def dp : D → Nat
  | .lst xs => dpA xs + 1
  | .tup xs => dpA xs + 1
  | _ => 0
def dpA : List D → Nat
  | [] => 0
  | x :: xs => max (dp x) (dpA xs)
end
mutual
theorem dp_py : ∀ {d : D} {p : PyData}, toPy d = some p → p.depth ≤ dp d
  | .non, p, h => by cases h; exact Nat.le_refl _
  | .bl b, p, h => by cases h; exact Nat.le_refl _
  | .int i, p, h => by cases h; exact Nat.le_refl _
  | .str x, p, h => by cases h; exact Nat.le_refl _
  | .lst xs, p, h => by
    obtain ⟨ys, e1, e2⟩ := ob h
    cases e2
    have := dpA_py e1
    show PyData.depthAll ys + 1 ≤ dpA xs + 1
    omega
  | .tup xs, p, h => by
    obtain ⟨ys, e1, e2⟩ := ob h
    cases e2
    have := dpA_py e1
    show PyData.depthAll ys + 1 ≤ dpA xs + 1
    omega
  | .dk _ _, p, h => by cases h
  | .dt _ _, p, h => by cases h
  | .fn _, p, h => by cases h
  | .ty _, p, h => by cases h
  | .ro _, p, h => by cases h
theorem dpA_py : ∀ {ds : List D} {ps : List PyData}, toPyA ds = some ps → PyData.depthAll ps ≤ dpA ds
  | [], ps, h => by cases h; exact Nat.le_refl _
  | d :: ds, ps, h => by
    obtain ⟨y, e1, h⟩ := ob h
    obtain ⟨ys, e2, h⟩ := ob h
    cases h
    have h1 := dp_py e1
    have h2 := dpA_py e2
    show max (PyData.depth y) (PyData.depthAll ys) ≤ max (dp d) (dpA ds)
    omega
end
/-- what is told in full -/
def Told (d : D) : Prop := ∃ w, wt d = some w ∧ w ≤ lim ∧ dp d ≤ 60
theorem repr_told {d : D} (h : Told d) : ∃ s, gRepr [d] = some (.str s) := by
  obtain ⟨w, h1, h2, h3⟩ := h
  obtain ⟨p, p1, p2, p3, p4, p5, p6⟩ := wt_ok h1
  have p7 := dp_py p1
  refine ⟨p.shown, ?_⟩
  show (toPy d).bind _ = _
  rw [p1]
  show (if p.showable && !p.hasDict && decide (p.depth ≤ 60) && decide (p.shown.length ≤ lim) && noStr p then some (D.str p.shown) else none) = _
  rw [p2, p3, p6, decide_eq_true (show p.depth ≤ 60 by omega), decide_eq_true (show p.shown.length ≤ lim by omega)]
  rfl
theorem eq_str (s : Str) : gEq (.str s) (.str s) = some (.bl true) := by
  simp only [gEq, decide_true]
/-- lists of ints whose numbers are not too long -/
theorem wt_ints : ∀ {ns : List Int}, (∀ n ∈ ns, n.natAbs.log2 < 1920) → wtA (iD ns) = some (1924 * ns.length)
  | [], _ => rfl
  | n :: ns, h => by
    show (wt (.int n)).bind _ = _
    rw [show wt (.int n) = some 1922 from if_pos (h n List.mem_cons_self)]
    show (wtA (iD ns)).map _ = _
    rw [wt_ints fun m hm => h m (List.mem_cons_of_mem _ hm)]
    show some (1922 + 2 + 1924 * ns.length) = _
    rw [List.length_cons]
    congr 1; omega
theorem dp_ints : ∀ (ns : List Int), dpA (iD ns) = 0
  | [] => rfl
  | n :: ns => by show max 0 (dpA (iD ns)) = 0; rw [dp_ints ns]; rfl
theorem log_le {i : Int} {k : Nat} (h0 : 0 ≤ i) (h : i < 2 ^ k) (hk : k ≤ 1920) (hk0 : 0 < k) : i.natAbs.log2 < 1920 := by
  by_cases z : i.natAbs = 0
  · rw [z]; decide
  · refine (Nat.log2_lt z).mpr ?_
    have e : ((i.natAbs : Nat) : Int) = i := by omega
    have h2 : (i.natAbs : Int) < ((2 ^ k : Nat) : Int) := by rw [e]; simpa using h
    exact Nat.lt_of_lt_of_le (by exact_mod_cast h2) (Nat.pow_le_pow_right (by decide) hk)
end DL

namespace K15
open PySem PySem.Spec PyProof.Rows L2 DL
def topS (i : Nat) : Stmt := PySem.Challenge.pw_tiledwhole_k15_whole_rods_of_eight_lengt.main.body.getD i (.Pass ⟨0, 0, 0, 0⟩)
/-! ### is_integer -/
abbrev st_is_integer : Stmt := topS 5
abbrev N_is_integer : List Str := ["thing"]
theorem sc_is_integer : FnScope N_is_integer ["thing"] (defScope st_is_integer) := ⟨rfl, rfl, rfl, by decide +kernel, rfl, by decide +kernel, by decide +kernel⟩
def s_is_integer : SX := (sRet (eAnd (eCall gIsi (aCons (hName 0) (aCons (hVal (eC (.ty "int"))) aNil))) (eNot (eCall gIsi (aCons (hName 0) (aCons (hVal (eC (.ty "bool"))) aNil))))))
def F_is_integer : List D → Option D := runV 1 s_is_integer
theorem body_is_integer {P : Program} {ww : World} {K : PySem.W.Frag} {mg : Str → Option Value} {base : Heap} {f : Addr} (B : Bl mg) : Body P ww K mg base N_is_integer 0 "is_integer" st_is_integer f s_is_integer := by
  intro S cdv A outer s H E hr hG
  have nd : N_is_integer.Nodup := sc_is_integer.nd
  exact (pssd_one (psd_ret (pd_and (pd_callB call_isi d_isi (by rfl) B.isinstance (by decide +kernel) (pda_cons (ph_name (pv 0)) (pda_cons (ph_val (pd_ty (pe_bltn (by rfl) B.int (by decide +kernel) rfl))) pda_nil))) (pd_one (pd_not (pd_callB call_isi d_isi (by rfl) B.isinstance (by decide +kernel) (pda_cons (ph_name (pv 0)) (pda_cons (ph_val (pd_ty (pe_bltn (by rfl) B.bool (by decide +kernel) rfl))) pda_nil))))))))
theorem gal_is_integer {P : Program} {ww : World} {K : PySem.W.Frag} {mg : Str → Option Value} {base : Heap} {f : Addr} {fd : FuncData} (F : L2.Fun K "is_integer" "is_integer" st_is_integer f fd) (hm : mg "is_integer" = some (.ref f)) (b : Binds K fd ["thing"] []) (B : Bl mg) : Gal P ww K mg base 1 "is_integer" (spV 1 K F_is_integer) :=
  galV F hm b sc_is_integer (body_is_integer B)
/-! ### is_within -/
abbrev st_is_within : Stmt := topS 6
abbrev N_is_within : List Str := ["thing", "low", "high"]
theorem sc_is_within : FnScope N_is_within ["thing", "low", "high"] (defScope st_is_within) := ⟨rfl, rfl, rfl, by decide +kernel, rfl, by decide +kernel, by decide +kernel⟩
def s_is_within : SX := (sRet (eAnd (eFn F_is_integer (mP (eVar 0) mNil)) (eChain gLe gLe (hName 1) (hName 0) (hName 2))))
def F_is_within : List D → Option D := runV 3 s_is_within
theorem body_is_within {P : Program} {ww : World} {K : PySem.W.Frag} {mg : Str → Option Value} {base : Heap} {f : Addr} (B : Bl mg) (G_is_integer : Gal P ww K mg base 1 "is_integer" (spV 1 K F_is_integer)) : Body P ww K mg base N_is_within 1 "is_within" st_is_within f s_is_within := by
  intro S cdv A outer s H E hr hG
  have nd : N_is_within.Nodup := sc_is_within.nd
  exact (pssd_one (psd_ret (pd_and (pd_gal G_is_integer hG hr (by rfl) (pdm_p (pd_var (pv 0)) pdm_nil) (mlen_p mlen_nil)) (pd_one (pd_chain op_le op_le d_le d_le (ph_name (pv 1)) (ph_name (pv 0)) (ph_name (pv 2)))))))
theorem gal_is_within {P : Program} {ww : World} {K : PySem.W.Frag} {mg : Str → Option Value} {base : Heap} {f : Addr} {fd : FuncData} (F : L2.Fun K "is_within" "is_within" st_is_within f fd) (hm : mg "is_within" = some (.ref f)) (b : Binds K fd ["thing", "low", "high"] []) (B : Bl mg) (G_is_integer : Gal P ww K mg base 1 "is_integer" (spV 1 K F_is_integer)) : Gal P ww K mg base 2 "is_within" (spV 3 K F_is_within) :=
  galV F hm b sc_is_within (body_is_within B G_is_integer)
/-! ### is_row -/
abbrev st_is_row : Stmt := topS 7
abbrev N_is_row : List Str := ["thing"]
theorem sc_is_row : FnScope N_is_row ["thing"] (defScope st_is_row) := ⟨rfl, rfl, rfl, by decide +kernel, rfl, by decide +kernel, by decide +kernel⟩
def s_is_row : SX := (sRet (eIsi2 "list" "tuple" (hName 0)))
def F_is_row : List D → Option D := runV 1 s_is_row
theorem body_is_row {P : Program} {ww : World} {K : PySem.W.Frag} {mg : Str → Option Value} {base : Heap} {f : Addr} (B : Bl mg) : Body P ww K mg base N_is_row 0 "is_row" st_is_row f s_is_row := by
  intro S cdv A outer s H E hr hG
  have nd : N_is_row.Nodup := sc_is_row.nd
  exact (pssd_one (psd_ret (pd_isi2 (by rfl) B.isinstance (ph_name (pv 0)) (pe_bltn (by rfl) B.list (by decide +kernel) rfl) (pe_bltn (by rfl) B.tuple (by decide +kernel) rfl))))
theorem gal_is_row {P : Program} {ww : World} {K : PySem.W.Frag} {mg : Str → Option Value} {base : Heap} {f : Addr} {fd : FuncData} (F : L2.Fun K "is_row" "is_row" st_is_row f fd) (hm : mg "is_row" = some (.ref f)) (b : Binds K fd ["thing"] []) (B : Bl mg) : Gal P ww K mg base 1 "is_row" (spV 1 K F_is_row) :=
  galV F hm b sc_is_row (body_is_row B)
/-! ### check_number -/
abbrev st_check_number : Stmt := topS 8
abbrev N_check_number : List Str := ["thing", "low", "high"]
theorem sc_check_number : FnScope N_check_number ["thing", "low", "high"] (defScope st_check_number) := ⟨rfl, rfl, rfl, by decide +kernel, rfl, by decide +kernel, by decide +kernel⟩
def s_check_number : SX := (sIf (bNot (bE (eFn F_is_within (mP (eVar 0) (mP (eVar 1) (mP (eVar 2) mNil)))))) sNever sNext)
def F_check_number : List D → Option D := runV 3 s_check_number
theorem body_check_number {P : Program} {ww : World} {K : PySem.W.Frag} {mg : Str → Option Value} {base : Heap} {f : Addr} (B : Bl mg) (G_is_within : Gal P ww K mg base 2 "is_within" (spV 3 K F_is_within)) : Body P ww K mg base N_check_number 2 "check_number" st_check_number f s_check_number := by
  intro S cdv A outer s H E hr hG
  have nd : N_check_number.Nodup := sc_check_number.nd
  exact (pssd_one (psd_if (pdt_not (pdt_val (pd_gal G_is_within hG hr (by rfl) (pdm_p (pd_var (pv 0)) (pdm_p (pd_var (pv 1)) (pdm_p (pd_var (pv 2)) pdm_nil))) (mlen_p (mlen_p (mlen_p mlen_nil)))))) (pssd_one psd_never) pssd_nil))
theorem gal_check_number {P : Program} {ww : World} {K : PySem.W.Frag} {mg : Str → Option Value} {base : Heap} {f : Addr} {fd : FuncData} (F : L2.Fun K "check_number" "check_number" st_check_number f fd) (hm : mg "check_number" = some (.ref f)) (b : Binds K fd ["thing", "low", "high"] []) (B : Bl mg) (G_is_within : Gal P ww K mg base 2 "is_within" (spV 3 K F_is_within)) : Gal P ww K mg base 3 "check_number" (spV 3 K F_check_number) :=
  galV F hm b sc_check_number (body_check_number B G_is_within)
/-! ### check_rods -/
abbrev st_check_rods : Stmt := topS 12
abbrev N_check_rods : List Str := ["rods", "rod", "one", "other"]
theorem sc_check_rods : FnScope N_check_rods ["rods"] (defScope st_check_rods) := ⟨rfl, rfl, rfl, by decide +kernel, rfl, by decide +kernel, by decide +kernel⟩
def s_check_rods : SX := (sSeq (sIf (bOr (bNot (bE (eFn F_is_row (mP (eVar 0) mNil)))) (bNot (bE (eChain gLe gLe (hVal (eC (.int 1))) (hVal (eCall (g1 dLen) (aCons (hName 0) aNil))) (hVal (eC (.int 8))))))) sNever sNext)
  (sSeq (sFor (iSeq (eVar 0)) (txN 1) (sIf (bOr (bNot (bE (eFn F_is_row (mP (eVar 1) mNil)))) (bOr (bE (eOp gNe (hVal (eCall (g1 dLen) (aCons (hName 1) aNil))) (hVal (eC (.int 2))))) (bOr (bNot (bE (eFn F_is_within (mP (eOp gIx (hName 1) (hVal (eC (.int 0)))) (mP (eC (.int 1)) (mP (eC (.int 60)) mNil)))))) (bNot (bE (eFn F_is_within (mP (eOp gIx (hName 1) (hVal (eC (.int 1)))) (mP (eC (.int 1)) (mP (eC (.int 9)) mNil))))))))) sNever sNext))
  (sIf (bNot (bE (eCall (g1 dAll) (aCons (hVal (eOwn (oLc (iZipD (eVar 0) (eSl gSl (hName 0) (pSo (eC (.int 1))) pNo)) (txT 2 (txsCons (txN 2) (txsCons (txN 3) txsNil))) bYes (eOp gLt (hVal (eOp gIx (hName 2) (hVal (eC (.int 0))))) (hVal (eOp gIx (hName 3) (hVal (eC (.int 0)))))) [2, 3]))) aNil)))) sNever sNext)))
def F_check_rods : List D → Option D := runV 4 s_check_rods
theorem body_check_rods {P : Program} {ww : World} {K : PySem.W.Frag} {mg : Str → Option Value} {base : Heap} {f : Addr} (B : Bl mg) (m_MOST_LENGTH : ∃ t, mg "MOST_LENGTH" = some (.int 60 t)) (G_is_row : Gal P ww K mg base 1 "is_row" (spV 1 K F_is_row)) (G_is_within : Gal P ww K mg base 2 "is_within" (spV 3 K F_is_within)) : Body P ww K mg base N_check_rods 2 "check_rods" st_check_rods f s_check_rods := by
  intro S cdv A outer s H E hr hG
  have nd : N_check_rods.Nodup := sc_check_rods.nd
  have G_is_row := G_is_row.mono (k' := 2) (by decide)
  obtain ⟨t_MOST_LENGTH, e_MOST_LENGTH⟩ := m_MOST_LENGTH
  have c_MOST_LENGTH : ∀ {X : Cx} {pos : Pos}, X.mg = mg → Gl X "MOST_LENGTH" → PE X (.Name "MOST_LENGTH" pos) (tC (.int 60)) := fun hm hg => pe_glob hg (by rw [hm]; exact e_MOST_LENGTH) ⟨_, rfl⟩
  exact (pssd_cons (psd_if (pdt_bool (pdw_or (pdt_not (pdt_val (pd_gal G_is_row hG hr (by rfl) (pdm_p (pd_var (pv 0)) pdm_nil) (mlen_p mlen_nil)))) (pdw_or1 (pdt_not (pdt_chain op_le op_le d_le d_le (ph_val (pd_int pe_int)) (ph_val (pd_callB c_len d_len (by rfl) B.len (by decide +kernel) (pda_cons (ph_name (pv 0)) pda_nil))) (ph_val (pd_int pe_int))))))) (pssd_one psd_never) pssd_nil)
  (pssd_cons (psd_for PassesOwn.never rfl (pdi_seq (pd_var (pv 0))) (pgd_name (i := 1) nd rfl (.inl rfl)) (pssd_one (psd_if (pdt_bool (pdw_or (pdt_not (pdt_val (pd_gal G_is_row hG hr (by rfl) (pdm_p (pd_var (pv 1)) pdm_nil) (mlen_p mlen_nil)))) (pdw_or (pdt_cmp (op_neD hr.units) d_ne (ph_val (pd_callB c_len d_len (by rfl) B.len (by decide +kernel) (pda_cons (ph_name (pv 1)) pda_nil))) (ph_val (pd_int pe_int)) (nomark _)) (pdw_or (pdt_not (pdt_val (pd_gal G_is_within hG hr (by rfl) (pdm_p (pd_ix ix_seq d_ix (ph_name (pv 1)) (ph_val (pd_int pe_int)) (fun _ _ => rfl)) (pdm_p (pd_int pe_int) (pdm_p (pd_int (c_MOST_LENGTH rfl (by rfl))) pdm_nil))) (mlen_p (mlen_p (mlen_p mlen_nil)))))) (pdw_or1 (pdt_not (pdt_val (pd_gal G_is_within hG hr (by rfl) (pdm_p (pd_ix ix_seq d_ix (ph_name (pv 1)) (ph_val (pd_int pe_int)) (fun _ _ => rfl)) (pdm_p (pd_int pe_int) (pdm_p (pd_int pe_int) pdm_nil))) (mlen_p (mlen_p (mlen_p mlen_nil))))))))))) (pssd_one psd_never) pssd_nil)))
  (pssd_one (psd_if (pdt_not (pdt_val (pd_callB (cr_all rfl) d_all (by rfl) B.all (by decide +kernel) (pda_cons (ph_val (pd_own (pod_lc rfl nd (pdi_zip (by rfl) B.zip (pd_var (pv 0)) (pd_sl r_sl d_sl (ph_name (pv 0)) (pdp_some (pd_int pe_int)) pdp_none)) (own := [("one", 2), ("other", 3)]) (by exact blkOk_by (N := N_check_rods) (sc := defScope st_check_rods) (own := [("one", 2), ("other", 3)]) (by decide +kernel)) ⟨fun S s H C cl fp => (pgd_tup rfl (pgsd_cons (pgd_name (i := 2) nd rfl (.inl rfl)) (pgsd_cons (pgd_name (i := 3) nd rfl (.inl rfl)) pgsd_nil))), fun S s H C cl fp => ptd_nil, fun S s H C cl fp => (pd_cmp op_lt d_lt (ph_val (pd_ix ix_seq d_ix (ph_name (pv 2)) (ph_val (pd_int pe_int)) (fun _ _ => rfl))) (ph_val (pd_ix ix_seq d_ix (ph_name (pv 3)) (ph_val (pd_int pe_int)) (fun _ _ => rfl))) (nomark _))⟩ (by decide) (tg_tup (tgs_cons (tg_name (by decide)) (tgs_cons (tg_name (by decide)) tgs_nil)))))) pda_nil)))) (pssd_one psd_never) pssd_nil))))
theorem gal_check_rods {P : Program} {ww : World} {K : PySem.W.Frag} {mg : Str → Option Value} {base : Heap} {f : Addr} {fd : FuncData} (F : L2.Fun K "check_rods" "check_rods" st_check_rods f fd) (hm : mg "check_rods" = some (.ref f)) (b : Binds K fd ["rods"] []) (B : Bl mg) (m_MOST_LENGTH : ∃ t, mg "MOST_LENGTH" = some (.int 60 t)) (G_is_row : Gal P ww K mg base 1 "is_row" (spV 1 K F_is_row)) (G_is_within : Gal P ww K mg base 2 "is_within" (spV 3 K F_is_within)) : Gal P ww K mg base 3 "check_rods" (spV 1 K F_check_rods) :=
  galV F hm b sc_check_rods (body_check_rods B m_MOST_LENGTH G_is_row G_is_within)
/-! ### counts -/
abbrev st_counts : Stmt := topS 13
abbrev N_counts : List Str := ["rods", "most", "found", "length", "rod", "colours"]
theorem sc_counts : FnScope N_counts ["rods", "most"] (defScope st_counts) := ⟨rfl, rfl, rfl, by decide +kernel, rfl, by decide +kernel, by decide +kernel⟩
def s_counts : SX := (sSeq (sDrop (eFn F_check_rods (mP (eVar 0) mNil)))
  (sSeq (sDrop (eFn F_check_number (mP (eVar 1) (mP (eC (.int 0)) (mP (eC (.int 400)) mNil)))))
  (sSeq (sSetO 2 (oLst (aCons (hVal (eC (.int 1))) aNil)))
  (sSeq (sFor (iRange rg2 (aCons (hVal (eC (.int 1))) (aCons (hVal (eOp gAdd (hName 1) (hVal (eC (.int 1))))) aNil))) (txN 3) (sApp 2 (eCall (g1 dSum) (aCons (hVal (eOwn (oLc (iSeq (eVar 0)) (txT 2 (txsCons (txN 4) (txsCons (txN 5) txsNil))) (bE (eOp gLe (hName 4) (hName 3))) (eOp gMul (hName 5) (hVal (eOp gIx (hName 2) (hVal (eOp gSub (hName 3) (hName 4)))))) [4, 5]))) aNil))))
  (sRet (eCall (g1 dTuple) (aCons (hName 2) aNil)))))))
def F_counts : List D → Option D := runV 6 s_counts
theorem body_counts {P : Program} {ww : World} {K : PySem.W.Frag} {mg : Str → Option Value} {base : Heap} {f : Addr} (B : Bl mg) (m_MOST_LONG : ∃ t, mg "MOST_LONG" = some (.int 400 t)) (G_check_rods : Gal P ww K mg base 3 "check_rods" (spV 1 K F_check_rods)) (G_check_number : Gal P ww K mg base 3 "check_number" (spV 3 K F_check_number)) : Body P ww K mg base N_counts 3 "counts" st_counts f s_counts := by
  intro S cdv A outer s H E hr hG
  have nd : N_counts.Nodup := sc_counts.nd
  obtain ⟨t_MOST_LONG, e_MOST_LONG⟩ := m_MOST_LONG
  have c_MOST_LONG : ∀ {X : Cx} {pos : Pos}, X.mg = mg → Gl X "MOST_LONG" → PE X (.Name "MOST_LONG" pos) (tC (.int 400)) := fun hm hg => pe_glob hg (by rw [hm]; exact e_MOST_LONG) ⟨_, rfl⟩
  exact (pssd_cons (psd_expr (pd_gal G_check_rods hG hr (by rfl) (pdm_p (pd_var (pv 0)) pdm_nil) (mlen_p mlen_nil)))
  (pssd_cons (psd_expr (pd_gal G_check_number hG hr (by rfl) (pdm_p (pd_var (pv 1)) (pdm_p (pd_int pe_int) (pdm_p (pd_int (c_MOST_LONG rfl (by rfl))) pdm_nil))) (mlen_p (mlen_p (mlen_p mlen_nil)))))
  (pssd_cons (psd_setO (i := 2) nd rfl (.inr rfl) (po_lst (pda_cons (ph_val (pd_int pe_int)) pda_nil)))
  (pssd_cons (psd_for PassesOwn.never rfl (pdi_range2 (by rfl) B.range (pda_cons (ph_val (pd_int pe_int)) (pda_cons (ph_val (pd_op r_add d_add (ph_name (pv 1)) (ph_val (pd_int pe_int)))) pda_nil))) (pgd_name (i := 3) nd rfl (.inr rfl)) (pssd_one (psd_app (pv 2) (pd_callB (cr_sum rfl) d_sum (by rfl) B.sum (by decide +kernel) (pda_cons (ph_val (pd_own (pod_lc rfl nd (pdi_seq (pd_var (pv 0))) (own := [("rod", 4), ("colours", 5)]) (by exact blkOk_by (N := N_counts) (sc := defScope st_counts) (own := [("rod", 4), ("colours", 5)]) (by decide +kernel)) ⟨fun S s H C cl fp => (pgd_tup rfl (pgsd_cons (pgd_name (i := 4) nd rfl (.inl rfl)) (pgsd_cons (pgd_name (i := 5) nd rfl (.inl rfl)) pgsd_nil))), fun S s H C cl fp => (ptd_one (pdt_cmp op_le d_le (ph_name (pv 4)) (ph_name (pv 3)) (nomark _))), fun S s H C cl fp => (pd_op r_mul d_mul (ph_name (pv 5)) (ph_val (pd_ix ix_seq d_ix (ph_name (pv 2)) (ph_val (pd_op op_sub d_sub (ph_name (pv 3)) (ph_name (pv 4)))) (fun _ _ => rfl))))⟩ (by decide) (tg_tup (tgs_cons (tg_name (by decide)) (tgs_cons (tg_name (by decide)) tgs_nil)))))) pda_nil)))))
  (pssd_one (psd_ret (pd_callT call_tuple_of d_tuple (by rfl) B.tuple (by decide +kernel) (pda_cons (ph_name (pv 2)) pda_nil))))))))
theorem gal_counts {P : Program} {ww : World} {K : PySem.W.Frag} {mg : Str → Option Value} {base : Heap} {f : Addr} {fd : FuncData} (F : L2.Fun K "counts" "counts" st_counts f fd) (hm : mg "counts" = some (.ref f)) (b : Binds K fd ["rods", "most"] []) (B : Bl mg) (m_MOST_LONG : ∃ t, mg "MOST_LONG" = some (.int 400 t)) (G_check_rods : Gal P ww K mg base 3 "check_rods" (spV 1 K F_check_rods)) (G_check_number : Gal P ww K mg base 3 "check_number" (spV 3 K F_check_number)) : Gal P ww K mg base 4 "counts" (spV 2 K F_counts) :=
  galV F hm b sc_counts (body_counts B m_MOST_LONG G_check_rods G_check_number)
/-! ### rest_product -/
abbrev st_rest_product : Stmt := topS 15
abbrev N_rest_product : List Str := ["one", "other", "items", "number", "size", "found", "at", "mine", "place", "its", "back"]
theorem sc_rest_product : FnScope N_rest_product ["one", "other", "items", "number"] (defScope st_rest_product) := ⟨rfl, rfl, rfl, by decide +kernel, rfl, by decide +kernel, by decide +kernel⟩
def s_rest_product : SX := (sSeq (sSet 4 (eCall (g1 dLen) (aCons (hName 2) aNil)))
  (sSeq (sSetO 5 (oOp cRep (hVal (eOwn (oLst (aCons (hVal (eC (.int 0))) aNil)))) (hVal (eOp gAdd (hVal (eCall (g1 dLen) (aCons (hName 0) aNil))) (hVal (eCall (g1 dLen) (aCons (hName 1) aNil)))))))
  (sSeq (sFor (iEnumD (eVar 0)) (txT 2 (txsCons (txN 6) (txsCons (txN 7) txsNil))) (sFor (iEnumD (eVar 1)) (txT 2 (txsCons (txN 8) (txsCons (txN 9) txsNil))) (sPut 5 (hVal (eOp gAdd (hName 6) (hName 8))) (eOp gMod (hVal (eCall (g1 dInt) (aCons (hVal (eOp gAdd (hVal (eOp gIx (hName 5) (hVal (eOp gAdd (hName 6) (hName 8))))) (hVal (eOp gMul (hName 7) (hName 9))))) aNil))) (hName 3)))))
  (sSeq (sFor (iRange rg3 (aCons (hVal (eOp gSub (hVal (eCall (g1 dLen) (aCons (hName 5) aNil))) (hVal (eC (.int 1))))) (aCons (hVal (eOp gSub (hName 4) (hVal (eC (.int 1))))) (aCons (hVal (eNeg (eC (.int 1)))) aNil)))) (txN 6) (sSeq (sFor (iRange rg2 (aCons (hVal (eC (.int 1))) (aCons (hVal (eOp gAdd (hName 4) (hVal (eC (.int 1))))) aNil))) (txN 10) (sPut 5 (hVal (eOp gSub (hName 6) (hName 10))) (eOp gMod (hVal (eCall (g1 dInt) (aCons (hVal (eOp gAdd (hVal (eOp gIx (hName 5) (hVal (eOp gSub (hName 6) (hName 10))))) (hVal (eOp gMul (hVal (eOp gIx (hName 5) (hName 6))) (hVal (eOp gIx (hName 2) (hVal (eOp gSub (hName 10) (hVal (eC (.int 1))))))))))) aNil))) (hName 3))))
  (sPut 5 (hName 6) (eC (.int 0)))))
  (sRet (eIf (bE (eOp gGt (hVal (eCall (g1 dLen) (aCons (hName 5) aNil))) (hName 4))) (eSl gSl (hName 5) pNo (pSo (eVar 4))) (eVar 5)))))))
def F_rest_product : List D → Option D := runV 11 s_rest_product
theorem body_rest_product {P : Program} {ww : World} {K : PySem.W.Frag} {mg : Str → Option Value} {base : Heap} {f : Addr} (B : Bl mg) : Body P ww K mg base N_rest_product 0 "rest_product" st_rest_product f s_rest_product := by
  intro S cdv A outer s H E hr hG
  have nd : N_rest_product.Nodup := sc_rest_product.nd
  exact (pssd_cons (psd_set (i := 4) nd rfl (.inl rfl) (pd_callB c_len d_len (by rfl) B.len (by decide +kernel) (pda_cons (ph_name (pv 2)) pda_nil)))
  (pssd_cons (psd_setO (i := 5) nd rfl (.inl rfl) (po_op op_rep o_rep (ph_val (pd_own (po_lst (pda_cons (ph_val (pd_int pe_int)) pda_nil)))) (ph_val (pd_op r_add d_add (ph_val (pd_callB c_len d_len (by rfl) B.len (by decide +kernel) (pda_cons (ph_name (pv 0)) pda_nil))) (ph_val (pd_callB c_len d_len (by rfl) B.len (by decide +kernel) (pda_cons (ph_name (pv 1)) pda_nil)))))))
  (pssd_cons (psd_for PassesOwn.never rfl (pdi_enum (by rfl) B.enumerate (pd_var (pv 0))) (pgd_tup rfl (pgsd_cons (pgd_name (i := 6) nd rfl (.inl rfl)) (pgsd_cons (pgd_name (i := 7) nd rfl (.inl rfl)) pgsd_nil))) (pssd_one (psd_for PassesOwn.never rfl (pdi_enum (by rfl) B.enumerate (pd_var (pv 1))) (pgd_tup rfl (pgsd_cons (pgd_name (i := 8) nd rfl (.inl rfl)) (pgsd_cons (pgd_name (i := 9) nd rfl (.inl rfl)) pgsd_nil))) (pssd_one (psd_put (pv 5) (ph_val (pd_op r_add d_add (ph_name (pv 6)) (ph_name (pv 8)))) (pd_op op_mod d_mod (ph_val (pd_callT call_int1 d_int (by rfl) B.int (by decide +kernel) (pda_cons (ph_val (pd_op r_add d_add (ph_val (pd_ix ix_seq d_ix (ph_name (pv 5)) (ph_val (pd_op r_add d_add (ph_name (pv 6)) (ph_name (pv 8)))) (fun _ _ => rfl))) (ph_val (pd_op r_mul d_mul (ph_name (pv 7)) (ph_name (pv 9)))))) pda_nil))) (ph_name (pv 3))))))))
  (pssd_cons (psd_for PassesOwn.never rfl (pdi_range3 (by rfl) B.range (pda_cons (ph_val (pd_op op_sub d_sub (ph_val (pd_callB c_len d_len (by rfl) B.len (by decide +kernel) (pda_cons (ph_name (pv 5)) pda_nil))) (ph_val (pd_int pe_int)))) (pda_cons (ph_val (pd_op op_sub d_sub (ph_name (pv 4)) (ph_val (pd_int pe_int)))) (pda_cons (ph_val (pd_neg (pd_int pe_int))) pda_nil)))) (pgd_name (i := 6) nd rfl (.inl rfl)) (pssd_cons (psd_for PassesOwn.never rfl (pdi_range2 (by rfl) B.range (pda_cons (ph_val (pd_int pe_int)) (pda_cons (ph_val (pd_op r_add d_add (ph_name (pv 4)) (ph_val (pd_int pe_int)))) pda_nil))) (pgd_name (i := 10) nd rfl (.inl rfl)) (pssd_one (psd_put (pv 5) (ph_val (pd_op op_sub d_sub (ph_name (pv 6)) (ph_name (pv 10)))) (pd_op op_mod d_mod (ph_val (pd_callT call_int1 d_int (by rfl) B.int (by decide +kernel) (pda_cons (ph_val (pd_op r_add d_add (ph_val (pd_ix ix_seq d_ix (ph_name (pv 5)) (ph_val (pd_op op_sub d_sub (ph_name (pv 6)) (ph_name (pv 10)))) (fun _ _ => rfl))) (ph_val (pd_op r_mul d_mul (ph_val (pd_ix ix_seq d_ix (ph_name (pv 5)) (ph_name (pv 6)) (fun _ _ => rfl))) (ph_val (pd_ix ix_seq d_ix (ph_name (pv 2)) (ph_val (pd_op op_sub d_sub (ph_name (pv 10)) (ph_val (pd_int pe_int)))) (fun _ _ => rfl))))))) pda_nil))) (ph_name (pv 3))))))
  (pssd_one (psd_put (pv 5) (ph_name (pv 6)) (pd_int pe_int)))))
  (pssd_one (psd_ret (pd_if (pdt_cmp op_gt d_gt (ph_val (pd_callB c_len d_len (by rfl) B.len (by decide +kernel) (pda_cons (ph_name (pv 5)) pda_nil))) (ph_name (pv 4)) (nomark _)) (pd_sl r_sl d_sl (ph_name (pv 5)) pdp_none (pdp_some (pd_var (pv 4)))) (pd_var (pv 5)))))))))
theorem gal_rest_product {P : Program} {ww : World} {K : PySem.W.Frag} {mg : Str → Option Value} {base : Heap} {f : Addr} {fd : FuncData} (F : L2.Fun K "rest_product" "rest_product" st_rest_product f fd) (hm : mg "rest_product" = some (.ref f)) (b : Binds K fd ["one", "other", "items", "number"] []) (B : Bl mg) : Gal P ww K mg base 1 "rest_product" (spV 4 K F_rest_product) :=
  galV F hm b sc_rest_product (body_rest_product B)
/-! ### great_count -/
abbrev st_great_count : Stmt := topS 14
abbrev N_great_count : List Str := ["rods", "length", "number", "size", "items", "rod", "colours", "base", "found", "left", "told", "at", "one"]
theorem sc_great_count : FnScope N_great_count ["rods", "length", "number"] (defScope st_great_count) := ⟨rfl, rfl, rfl, by decide +kernel, rfl, by decide +kernel, by decide +kernel⟩
def s_great_count : SX := (sSeq (sDrop (eFn F_check_rods (mP (eVar 0) mNil)))
  (sSeq (sDrop (eFn F_check_number (mP (eVar 1) (mP (eC (.int 0)) (mP (eOp gPow (hVal (eC (.int 10))) (hVal (eC (.int 12)))) mNil)))))
  (sSeq (sDrop (eFn F_check_number (mP (eVar 2) (mP (eC (.int 1)) (mP (eOp gPow (hVal (eC (.int 10))) (hVal (eC (.int 9)))) mNil)))))
  (sSeq (sSet 3 (eOp gIx (hVal (eOp gIx (hName 0) (hVal (eNeg (eC (.int 1)))))) (hVal (eC (.int 0)))))
  (sSeq (sSetO 4 (oOp cRep (hVal (eOwn (oLst (aCons (hVal (eC (.int 0))) aNil)))) (hName 3)))
  (sSeq (sFor (iSeq (eVar 0)) (txT 2 (txsCons (txN 5) (txsCons (txN 6) txsNil))) (sPut 4 (hVal (eOp gSub (hName 5) (hVal (eC (.int 1))))) (eOp gMod (hVal (eCall (g1 dInt) (aCons (hName 6) aNil))) (hName 2))))
  (sSeq (sPar [7, 8] (mO (oLst (aCons (hVal (eC (.int 0))) (aCons (hVal (eC (.int 1))) aNil))) (mO (oLst (aCons (hVal (eC (.int 1))) aNil)) mNil)))
  (sSeq (sSet 9 (eVar 1))
  (sSeq (loopW (bE (eOp gGt (hName 9) (hVal (eC (.int 0))))) (sSeq (sIf (bE (eOp gEq (hVal (eOp gMod (hVal (eCall (g1 dInt) (aCons (hName 9) aNil))) (hVal (eC (.int 2))))) (hVal (eC (.int 1))))) (sSet 8 (eFn F_rest_product (mP (eVar 8) (mP (eVar 7) (mP (eVar 4) (mP (eVar 2) mNil)))))) sNext)
  (sSeq (sSet 7 (eFn F_rest_product (mP (eVar 7) (mP (eVar 7) (mP (eVar 4) (mP (eVar 2) mNil))))))
  (sSet 9 (eOp gDiv (hName 9) (hVal (eC (.int 2))))))) 300)
  (sSeq (sSet 10 (eFn F_counts (mP (eVar 0) (mP (eVar 3) mNil))))
  (sRet (eOp gMod (hVal (eCall (g1 dInt) (aCons (hVal (eCall (g1 dSum) (aCons (hVal (eOwn (oLc (iEnumD (eVar 8)) (txT 2 (txsCons (txN 11) (txsCons (txN 12) txsNil))) bYes (eOp gMul (hName 12) (hVal (eOp gIx (hName 10) (hName 11)))) [11, 12]))) aNil))) aNil))) (hName 2)))))))))))))
def F_great_count : List D → Option D := runV 13 s_great_count
theorem body_great_count {P : Program} {ww : World} {K : PySem.W.Frag} {mg : Str → Option Value} {base : Heap} {f : Addr} (B : Bl mg) (G_check_rods : Gal P ww K mg base 3 "check_rods" (spV 1 K F_check_rods)) (G_check_number : Gal P ww K mg base 3 "check_number" (spV 3 K F_check_number)) (G_rest_product : Gal P ww K mg base 1 "rest_product" (spV 4 K F_rest_product)) (G_counts : Gal P ww K mg base 4 "counts" (spV 2 K F_counts)) : Body P ww K mg base N_great_count 4 "great_count" st_great_count f s_great_count := by
  intro S cdv A outer s H E hr hG
  have nd : N_great_count.Nodup := sc_great_count.nd
  have G_check_rods := G_check_rods.mono (k' := 4) (by decide)
  have G_check_number := G_check_number.mono (k' := 4) (by decide)
  have G_rest_product := G_rest_product.mono (k' := 4) (by decide)
  exact (pssd_cons (psd_expr (pd_gal G_check_rods hG hr (by rfl) (pdm_p (pd_var (pv 0)) pdm_nil) (mlen_p mlen_nil)))
  (pssd_cons (psd_expr (pd_gal G_check_number hG hr (by rfl) (pdm_p (pd_var (pv 1)) (pdm_p (pd_int pe_int) (pdm_p (pd_op op_pow d_pow (ph_val (pd_int pe_int)) (ph_val (pd_int pe_int))) pdm_nil))) (mlen_p (mlen_p (mlen_p mlen_nil)))))
  (pssd_cons (psd_expr (pd_gal G_check_number hG hr (by rfl) (pdm_p (pd_var (pv 2)) (pdm_p (pd_int pe_int) (pdm_p (pd_op op_pow d_pow (ph_val (pd_int pe_int)) (ph_val (pd_int pe_int))) pdm_nil))) (mlen_p (mlen_p (mlen_p mlen_nil)))))
  (pssd_cons (psd_set (i := 3) nd rfl (.inl rfl) (pd_ix ix_seq d_ix (ph_val (pd_ix ix_seq d_ix (ph_name (pv 0)) (ph_val (pd_neg (pd_int pe_int))) (fun _ _ => rfl))) (ph_val (pd_int pe_int)) (fun _ _ => rfl)))
  (pssd_cons (psd_setO (i := 4) nd rfl (.inl rfl) (po_op op_rep o_rep (ph_val (pd_own (po_lst (pda_cons (ph_val (pd_int pe_int)) pda_nil)))) (ph_name (pv 3))))
  (pssd_cons (psd_for PassesOwn.never rfl (pdi_seq (pd_var (pv 0))) (pgd_tup rfl (pgsd_cons (pgd_name (i := 5) nd rfl (.inl rfl)) (pgsd_cons (pgd_name (i := 6) nd rfl (.inl rfl)) pgsd_nil))) (pssd_one (psd_put (pv 4) (ph_val (pd_op op_sub d_sub (ph_name (pv 5)) (ph_val (pd_int pe_int)))) (pd_op op_mod d_mod (ph_val (pd_callT call_int1 d_int (by rfl) B.int (by decide +kernel) (pda_cons (ph_name (pv 6)) pda_nil))) (ph_name (pv 2))))))
  (pssd_cons (psd_par (i := 7) (j := 8) rfl nd rfl rfl (by decide) rfl rfl (pdm_o (po_lst (pda_cons (ph_val (pd_int pe_int)) (pda_cons (ph_val (pd_int pe_int)) pda_nil))) (fun S => (pdm_o (po_lst (pda_cons (ph_val (pd_int pe_int)) pda_nil)) (fun S => pdm_nil)))) (by rfl))
  (pssd_cons (psd_set (i := 9) nd rfl (.inl rfl) (pd_var (pv 1)))
  (pssd_cons (psd_while 300 PassesOwn.never (pdt_cmp op_gt d_gt (ph_name (pv 9)) (ph_val (pd_int pe_int)) (nomark _)) (pssd_cons (psd_if (pdt_cmp (r_eq hr.units) d_eq (ph_val (pd_op op_mod d_mod (ph_val (pd_callT call_int1 d_int (by rfl) B.int (by decide +kernel) (pda_cons (ph_name (pv 9)) pda_nil))) (ph_val (pd_int pe_int)))) (ph_val (pd_int pe_int)) (nomark _)) (pssd_one (psd_set (i := 8) nd rfl (.inl rfl) (pd_gal G_rest_product hG hr (by rfl) (pdm_p (pd_var (pv 8)) (pdm_p (pd_var (pv 7)) (pdm_p (pd_var (pv 4)) (pdm_p (pd_var (pv 2)) pdm_nil)))) (mlen_p (mlen_p (mlen_p (mlen_p mlen_nil))))))) pssd_nil)
  (pssd_cons (psd_set (i := 7) nd rfl (.inl rfl) (pd_gal G_rest_product hG hr (by rfl) (pdm_p (pd_var (pv 7)) (pdm_p (pd_var (pv 7)) (pdm_p (pd_var (pv 4)) (pdm_p (pd_var (pv 2)) pdm_nil)))) (mlen_p (mlen_p (mlen_p (mlen_p mlen_nil))))))
  (pssd_one (psd_set (i := 9) nd rfl (.inl rfl) (pd_op op_fdivW d_div (ph_name (pv 9)) (ph_val (pd_int pe_int))))))))
  (pssd_cons (psd_set (i := 10) nd rfl (.inr rfl) (pd_gal G_counts hG hr (by rfl) (pdm_p (pd_var (pv 0)) (pdm_p (pd_var (pv 3)) pdm_nil)) (mlen_p (mlen_p mlen_nil))))
  (pssd_one (psd_ret (pd_op op_mod d_mod (ph_val (pd_callT call_int1 d_int (by rfl) B.int (by decide +kernel) (pda_cons (ph_val (pd_callB (cr_sum rfl) d_sum (by rfl) B.sum (by decide +kernel) (pda_cons (ph_val (pd_own (pod_lc rfl nd (pdi_enum (by rfl) B.enumerate (pd_var (pv 8))) (own := [("at", 11), ("one", 12)]) (by exact blkOk_by (N := N_great_count) (sc := defScope st_great_count) (own := [("at", 11), ("one", 12)]) (by decide +kernel)) ⟨fun S s H C cl fp => (pgd_tup rfl (pgsd_cons (pgd_name (i := 11) nd rfl (.inl rfl)) (pgsd_cons (pgd_name (i := 12) nd rfl (.inl rfl)) pgsd_nil))), fun S s H C cl fp => ptd_nil, fun S s H C cl fp => (pd_op r_mul d_mul (ph_name (pv 12)) (ph_val (pd_ix ix_seq d_ix (ph_name (pv 10)) (ph_name (pv 11)) (fun _ _ => rfl))))⟩ (by decide) (tg_tup (tgs_cons (tg_name (by decide)) (tgs_cons (tg_name (by decide)) tgs_nil)))))) pda_nil))) pda_nil))) (ph_name (pv 2)))))))))))))))
theorem gal_great_count {P : Program} {ww : World} {K : PySem.W.Frag} {mg : Str → Option Value} {base : Heap} {f : Addr} {fd : FuncData} (F : L2.Fun K "great_count" "great_count" st_great_count f fd) (hm : mg "great_count" = some (.ref f)) (b : Binds K fd ["rods", "length", "number"] []) (B : Bl mg) (G_check_rods : Gal P ww K mg base 3 "check_rods" (spV 1 K F_check_rods)) (G_check_number : Gal P ww K mg base 3 "check_number" (spV 3 K F_check_number)) (G_rest_product : Gal P ww K mg base 1 "rest_product" (spV 4 K F_rest_product)) (G_counts : Gal P ww K mg base 4 "counts" (spV 2 K F_counts)) : Gal P ww K mg base 5 "great_count" (spV 3 K F_great_count) :=
  galV F hm b sc_great_count (body_great_count B G_check_rods G_check_number G_rest_product G_counts)
/-! ### is_rod -/
abbrev st_is_rod : Stmt := topS 17
abbrev N_is_rod : List Str := ["rods", "thing", "rod", "colours"]
theorem sc_is_rod : FnScope N_is_rod ["rods", "thing"] (defScope st_is_rod) := ⟨rfl, rfl, rfl, by decide +kernel, rfl, by decide +kernel, by decide +kernel⟩
def s_is_rod : SX := (sSeq (sIf (bOr (bNot (bE (eCall gIsi (aCons (hName 1) (aCons (hVal (eC (.ty "tuple"))) aNil))))) (bE (eOp gNe (hVal (eCall (g1 dLen) (aCons (hName 1) aNil))) (hVal (eC (.int 2)))))) (sRet (eC (.bl false))) sNext)
  (sRet (eCall (g1 dAny) (aCons (hVal (eOwn (oLc (iSeq (eVar 0)) (txT 2 (txsCons (txN 2) (txsCons (txN 3) txsNil))) bYes (eAnd (eFn F_is_within (mP (eOp gIx (hName 1) (hVal (eC (.int 0)))) (mP (eVar 2) (mP (eVar 2) mNil)))) (eFn F_is_within (mP (eOp gIx (hName 1) (hVal (eC (.int 1)))) (mP (eC (.int 0)) (mP (eOp gSub (hName 3) (hVal (eC (.int 1)))) mNil))))) [2, 3]))) aNil))))
def F_is_rod : List D → Option D := runV 4 s_is_rod
theorem body_is_rod {P : Program} {ww : World} {K : PySem.W.Frag} {mg : Str → Option Value} {base : Heap} {f : Addr} (B : Bl mg) (G_is_within : Gal P ww K mg base 2 "is_within" (spV 3 K F_is_within)) : Body P ww K mg base N_is_rod 2 "is_rod" st_is_rod f s_is_rod := by
  intro S cdv A outer s H E hr hG
  have nd : N_is_rod.Nodup := sc_is_rod.nd
  exact (pssd_cons (psd_if (pdt_bool (pdw_or (pdt_not (pdt_val (pd_callB call_isi d_isi (by rfl) B.isinstance (by decide +kernel) (pda_cons (ph_name (pv 1)) (pda_cons (ph_val (pd_ty (pe_bltn (by rfl) B.tuple (by decide +kernel) rfl))) pda_nil))))) (pdw_or1 (pdt_cmp (op_neD hr.units) d_ne (ph_val (pd_callB c_len d_len (by rfl) B.len (by decide +kernel) (pda_cons (ph_name (pv 1)) pda_nil))) (ph_val (pd_int pe_int)) (nomark _))))) (pssd_one (psd_ret (pd_bl pe_bl))) pssd_nil)
  (pssd_one (psd_ret (pd_callB (cr_any rfl) d_any (by rfl) B.any (by decide +kernel) (pda_cons (ph_val (pd_own (pod_lc rfl nd (pdi_seq (pd_var (pv 0))) (own := [("rod", 2), ("colours", 3)]) (by exact blkOk_by (N := N_is_rod) (sc := defScope st_is_rod) (own := [("rod", 2), ("colours", 3)]) (by decide +kernel)) ⟨fun S s H C cl fp => (pgd_tup rfl (pgsd_cons (pgd_name (i := 2) nd rfl (.inl rfl)) (pgsd_cons (pgd_name (i := 3) nd rfl (.inl rfl)) pgsd_nil))), fun S s H C cl fp => ptd_nil, fun S s H C cl fp => (pd_and (pd_gal G_is_within hG hr (by rfl) (pdm_p (pd_ix ix_seq d_ix (ph_name (pv 1)) (ph_val (pd_int pe_int)) (fun _ _ => rfl)) (pdm_p (pd_var (pv 2)) (pdm_p (pd_var (pv 2)) pdm_nil))) (mlen_p (mlen_p (mlen_p mlen_nil)))) (pd_one (pd_gal G_is_within hG hr (by rfl) (pdm_p (pd_ix ix_seq d_ix (ph_name (pv 1)) (ph_val (pd_int pe_int)) (fun _ _ => rfl)) (pdm_p (pd_int pe_int) (pdm_p (pd_op op_sub d_sub (ph_name (pv 3)) (ph_val (pd_int pe_int))) pdm_nil))) (mlen_p (mlen_p (mlen_p mlen_nil))))))⟩ (by decide) (tg_tup (tgs_cons (tg_name (by decide)) (tgs_cons (tg_name (by decide)) tgs_nil)))))) pda_nil)))))
theorem gal_is_rod {P : Program} {ww : World} {K : PySem.W.Frag} {mg : Str → Option Value} {base : Heap} {f : Addr} {fd : FuncData} (F : L2.Fun K "is_rod" "is_rod" st_is_rod f fd) (hm : mg "is_rod" = some (.ref f)) (b : Binds K fd ["rods", "thing"] []) (B : Bl mg) (G_is_within : Gal P ww K mg base 2 "is_within" (spV 3 K F_is_within)) : Gal P ww K mg base 3 "is_rod" (spV 2 K F_is_rod) :=
  galV F hm b sc_is_rod (body_is_rod B G_is_within)
/-! ### is_filled -/
abbrev st_is_filled : Stmt := topS 16
abbrev N_is_filled : List Str := ["rods", "length", "thing", "one"]
theorem sc_is_filled : FnScope N_is_filled ["rods", "length", "thing"] (defScope st_is_filled) := ⟨rfl, rfl, rfl, by decide +kernel, rfl, by decide +kernel, by decide +kernel⟩
def s_is_filled : SX := (sSeq (sDrop (eFn F_check_rods (mP (eVar 0) mNil)))
  (sSeq (sIf (bOr (bNot (bE (eCall gIsi (aCons (hName 2) (aCons (hVal (eC (.ty "tuple"))) aNil))))) (bNot (bE (eCall (g1 dAll) (aCons (hVal (eOwn (oLc (iSeq (eVar 2)) (txN 3) bYes (eFn F_is_rod (mP (eVar 0) (mP (eVar 3) mNil))) [3]))) aNil))))) (sRet (eC (.bl false))) sNext)
  (sRet (eOp gEq (hVal (eCall (g1 dSum) (aCons (hVal (eOwn (oLc (iSeq (eVar 2)) (txN 3) bYes (eOp gIx (hName 3) (hVal (eC (.int 0)))) [3]))) aNil))) (hName 1)))))
def F_is_filled : List D → Option D := runV 4 s_is_filled
theorem body_is_filled {P : Program} {ww : World} {K : PySem.W.Frag} {mg : Str → Option Value} {base : Heap} {f : Addr} (B : Bl mg) (G_check_rods : Gal P ww K mg base 3 "check_rods" (spV 1 K F_check_rods)) (G_is_rod : Gal P ww K mg base 3 "is_rod" (spV 2 K F_is_rod)) : Body P ww K mg base N_is_filled 3 "is_filled" st_is_filled f s_is_filled := by
  intro S cdv A outer s H E hr hG
  have nd : N_is_filled.Nodup := sc_is_filled.nd
  exact (pssd_cons (psd_expr (pd_gal G_check_rods hG hr (by rfl) (pdm_p (pd_var (pv 0)) pdm_nil) (mlen_p mlen_nil)))
  (pssd_cons (psd_if (pdt_bool (pdw_or (pdt_not (pdt_val (pd_callB call_isi d_isi (by rfl) B.isinstance (by decide +kernel) (pda_cons (ph_name (pv 2)) (pda_cons (ph_val (pd_ty (pe_bltn (by rfl) B.tuple (by decide +kernel) rfl))) pda_nil))))) (pdw_or1 (pdt_not (pdt_val (pd_callB (cr_all rfl) d_all (by rfl) B.all (by decide +kernel) (pda_cons (ph_val (pd_own (pod_lc rfl nd (pdi_seq (pd_var (pv 2))) (own := [("one", 3)]) (by exact blkOk_by (N := N_is_filled) (sc := defScope st_is_filled) (own := [("one", 3)]) (by decide +kernel)) ⟨fun S s H C cl fp => (pgd_name (i := 3) nd rfl (.inl rfl)), fun S s H C cl fp => ptd_nil, fun S s H C cl fp => (pd_gal G_is_rod hG hr (by rfl) (pdm_p (pd_var (pv 0)) (pdm_p (pd_var (pv 3)) pdm_nil)) (mlen_p (mlen_p mlen_nil)))⟩ (by decide) (tg_name (by decide))))) pda_nil))))))) (pssd_one (psd_ret (pd_bl pe_bl))) pssd_nil)
  (pssd_one (psd_ret (pd_cmp (r_eq hr.units) d_eq (ph_val (pd_callB (cr_sum rfl) d_sum (by rfl) B.sum (by decide +kernel) (pda_cons (ph_val (pd_own (pod_lc rfl nd (pdi_seq (pd_var (pv 2))) (own := [("one", 3)]) (by exact blkOk_by (N := N_is_filled) (sc := defScope st_is_filled) (own := [("one", 3)]) (by decide +kernel)) ⟨fun S s H C cl fp => (pgd_name (i := 3) nd rfl (.inl rfl)), fun S s H C cl fp => ptd_nil, fun S s H C cl fp => (pd_ix ix_seq d_ix (ph_name (pv 3)) (ph_val (pd_int pe_int)) (fun _ _ => rfl))⟩ (by decide) (tg_name (by decide))))) pda_nil))) (ph_name (pv 1)) (nomark _))))))
theorem gal_is_filled {P : Program} {ww : World} {K : PySem.W.Frag} {mg : Str → Option Value} {base : Heap} {f : Addr} {fd : FuncData} (F : L2.Fun K "is_filled" "is_filled" st_is_filled f fd) (hm : mg "is_filled" = some (.ref f)) (b : Binds K fd ["rods", "length", "thing"] []) (B : Bl mg) (G_check_rods : Gal P ww K mg base 3 "check_rods" (spV 1 K F_check_rods)) (G_is_rod : Gal P ww K mg base 3 "is_rod" (spV 2 K F_is_rod)) : Gal P ww K mg base 4 "is_filled" (spV 3 K F_is_filled) :=
  galV F hm b sc_is_filled (body_is_filled B G_check_rods G_is_rod)
/-! ### rank -/
abbrev st_rank : Stmt := topS 18
abbrev N_rank : List Str := ["rods", "row", "one", "length", "told", "found", "left", "rod", "colour", "other", "colours"]
theorem sc_rank : FnScope N_rank ["rods", "row"] (defScope st_rank) := ⟨rfl, rfl, rfl, by decide +kernel, rfl, by decide +kernel, by decide +kernel⟩
def s_rank : SX := (sSeq (sDrop (eFn F_check_rods (mP (eVar 0) mNil)))
  (sSeq (sIf (bOr (bNot (bE (eCall gIsi (aCons (hName 1) (aCons (hVal (eC (.ty "tuple"))) aNil))))) (bNot (bE (eCall (g1 dAll) (aCons (hVal (eOwn (oLc (iSeq (eVar 1)) (txN 2) bYes (eFn F_is_rod (mP (eVar 0) (mP (eVar 2) mNil))) [2]))) aNil))))) sNever sNext)
  (sSeq (sSet 3 (eCall (g1 dSum) (aCons (hVal (eOwn (oLc (iSeq (eVar 1)) (txN 2) bYes (eOp gIx (hName 2) (hVal (eC (.int 0)))) [2]))) aNil)))
  (sSeq (sPar [4, 5, 6] (mP (eFn F_counts (mP (eVar 0) (mP (eVar 3) mNil))) (mP (eC (.int 0)) (mP (eVar 3) mNil))))
  (sSeq (sFor (iSeq (eVar 1)) (txT 2 (txsCons (txN 7) (txsCons (txN 8) txsNil))) (sSeq (sFor (iSeq (eVar 0)) (txT 2 (txsCons (txN 9) (txsCons (txN 10) txsNil))) (sIf (bAnd (bE (eOp gLt (hName 9) (hName 7))) (bE (eOp gLe (hName 9) (hName 6)))) (sAug (fun i j => i + j) 5 (eOp gMul (hName 10) (hVal (eOp gIx (hName 4) (hVal (eOp gSub (hName 6) (hName 9))))))) sNext))
  (sSeq (sAug (fun i j => i + j) 5 (eOp gMul (hName 8) (hVal (eOp gIx (hName 4) (hVal (eOp gSub (hName 6) (hName 7)))))))
  (sAug (fun i j => i - j) 6 (eVar 7)))))
  (sRet (eVar 5)))))))
def F_rank : List D → Option D := runV 11 s_rank
theorem body_rank {P : Program} {ww : World} {K : PySem.W.Frag} {mg : Str → Option Value} {base : Heap} {f : Addr} (B : Bl mg) (G_check_rods : Gal P ww K mg base 3 "check_rods" (spV 1 K F_check_rods)) (G_is_rod : Gal P ww K mg base 3 "is_rod" (spV 2 K F_is_rod)) (G_counts : Gal P ww K mg base 4 "counts" (spV 2 K F_counts)) : Body P ww K mg base N_rank 4 "rank" st_rank f s_rank := by
  intro S cdv A outer s H E hr hG
  have nd : N_rank.Nodup := sc_rank.nd
  have G_check_rods := G_check_rods.mono (k' := 4) (by decide)
  have G_is_rod := G_is_rod.mono (k' := 4) (by decide)
  exact (pssd_cons (psd_expr (pd_gal G_check_rods hG hr (by rfl) (pdm_p (pd_var (pv 0)) pdm_nil) (mlen_p mlen_nil)))
  (pssd_cons (psd_if (pdt_bool (pdw_or (pdt_not (pdt_val (pd_callB call_isi d_isi (by rfl) B.isinstance (by decide +kernel) (pda_cons (ph_name (pv 1)) (pda_cons (ph_val (pd_ty (pe_bltn (by rfl) B.tuple (by decide +kernel) rfl))) pda_nil))))) (pdw_or1 (pdt_not (pdt_val (pd_callB (cr_all rfl) d_all (by rfl) B.all (by decide +kernel) (pda_cons (ph_val (pd_own (pod_lc rfl nd (pdi_seq (pd_var (pv 1))) (own := [("one", 2)]) (by exact blkOk_by (N := N_rank) (sc := defScope st_rank) (own := [("one", 2)]) (by decide +kernel)) ⟨fun S s H C cl fp => (pgd_name (i := 2) nd rfl (.inl rfl)), fun S s H C cl fp => ptd_nil, fun S s H C cl fp => (pd_gal G_is_rod hG hr (by rfl) (pdm_p (pd_var (pv 0)) (pdm_p (pd_var (pv 2)) pdm_nil)) (mlen_p (mlen_p mlen_nil)))⟩ (by decide) (tg_name (by decide))))) pda_nil))))))) (pssd_one psd_never) pssd_nil)
  (pssd_cons (psd_set (i := 3) nd rfl (.inl rfl) (pd_callB (cr_sum rfl) d_sum (by rfl) B.sum (by decide +kernel) (pda_cons (ph_val (pd_own (pod_lc rfl nd (pdi_seq (pd_var (pv 1))) (own := [("one", 2)]) (by exact blkOk_by (N := N_rank) (sc := defScope st_rank) (own := [("one", 2)]) (by decide +kernel)) ⟨fun S s H C cl fp => (pgd_name (i := 2) nd rfl (.inl rfl)), fun S s H C cl fp => ptd_nil, fun S s H C cl fp => (pd_ix ix_seq d_ix (ph_name (pv 2)) (ph_val (pd_int pe_int)) (fun _ _ => rfl))⟩ (by decide) (tg_name (by decide))))) pda_nil)))
  (pssd_cons (psd_par3 (i := 4) (j := 5) (l := 6) rfl nd rfl rfl rfl (by decide) (by decide) (by decide) rfl rfl rfl (pdm_p (pd_gal G_counts hG hr (by rfl) (pdm_p (pd_var (pv 0)) (pdm_p (pd_var (pv 3)) pdm_nil)) (mlen_p (mlen_p mlen_nil))) (pdm_p (pd_int pe_int) (pdm_p (pd_var (pv 3)) pdm_nil))) (by rfl))
  (pssd_cons (psd_for PassesOwn.never rfl (pdi_seq (pd_var (pv 1))) (pgd_tup rfl (pgsd_cons (pgd_name (i := 7) nd rfl (.inl rfl)) (pgsd_cons (pgd_name (i := 8) nd rfl (.inl rfl)) pgsd_nil))) (pssd_cons (psd_for PassesOwn.never rfl (pdi_seq (pd_var (pv 0))) (pgd_tup rfl (pgsd_cons (pgd_name (i := 9) nd rfl (.inl rfl)) (pgsd_cons (pgd_name (i := 10) nd rfl (.inl rfl)) pgsd_nil))) (pssd_one (psd_if (pdt_bool (pdw_and (pdt_cmp op_lt d_lt (ph_name (pv 9)) (ph_name (pv 7)) (nomark _)) (pdw_and1 (pdt_cmp op_le d_le (ph_name (pv 9)) (ph_name (pv 6)) (nomark _))))) (pssd_one (psd_aug (i := 5) ip_add nd rfl (.inl rfl) (pd_op r_mul d_mul (ph_name (pv 10)) (ph_val (pd_ix ix_seq d_ix (ph_name (pv 4)) (ph_val (pd_op op_sub d_sub (ph_name (pv 6)) (ph_name (pv 9)))) (fun _ _ => rfl)))))) pssd_nil)))
  (pssd_cons (psd_aug (i := 5) ip_add nd rfl (.inl rfl) (pd_op r_mul d_mul (ph_name (pv 8)) (ph_val (pd_ix ix_seq d_ix (ph_name (pv 4)) (ph_val (pd_op op_sub d_sub (ph_name (pv 6)) (ph_name (pv 7)))) (fun _ _ => rfl)))))
  (pssd_one (psd_aug (i := 6) ip_sub nd rfl (.inl rfl) (pd_var (pv 7)))))))
  (pssd_one (psd_ret (pd_var (pv 5)))))))))
theorem gal_rank {P : Program} {ww : World} {K : PySem.W.Frag} {mg : Str → Option Value} {base : Heap} {f : Addr} {fd : FuncData} (F : L2.Fun K "rank" "rank" st_rank f fd) (hm : mg "rank" = some (.ref f)) (b : Binds K fd ["rods", "row"] []) (B : Bl mg) (G_check_rods : Gal P ww K mg base 3 "check_rods" (spV 1 K F_check_rods)) (G_is_rod : Gal P ww K mg base 3 "is_rod" (spV 2 K F_is_rod)) (G_counts : Gal P ww K mg base 4 "counts" (spV 2 K F_counts)) : Gal P ww K mg base 5 "rank" (spV 2 K F_rank) :=
  galV F hm b sc_rank (body_rank B G_check_rods G_is_rod G_counts)
/-! ### row_at -/
abbrev st_row_at : Stmt := topS 19
abbrev N_row_at : List Str := ["rods", "length", "place", "told", "found", "left", "rest", "rod", "colours", "here"]
theorem sc_row_at : FnScope N_row_at ["rods", "length", "place"] (defScope st_row_at) := ⟨rfl, rfl, rfl, by decide +kernel, rfl, by decide +kernel, by decide +kernel⟩
def s_row_at : SX := (sSeq (sSet 3 (eFn F_counts (mP (eVar 0) (mP (eVar 1) mNil))))
  (sSeq (sIf (bNot (bE (eFn F_is_within (mP (eVar 2) (mP (eC (.int 0)) (mP (eOp gSub (hVal (eOp gIx (hName 3) (hName 1))) (hVal (eC (.int 1)))) mNil)))))) sNever sNext)
  (sSeq (sPar [4, 5, 6] (mP (eTup aNil) (mP (eVar 1) (mP (eVar 2) mNil))))
  (sSeq (loopW (bE (eOp gGt (hName 5) (hVal (eC (.int 0))))) (sFor (iSeq (eVar 0)) (txT 2 (txsCons (txN 7) (txsCons (txN 8) txsNil))) (sIf (bE (eOp gLe (hName 7) (hName 5))) (sSeq (sSet 9 (eOp gMul (hName 8) (hVal (eOp gIx (hName 3) (hVal (eOp gSub (hName 5) (hName 7)))))))
  (sSeq (sIf (bE (eOp gLt (hName 6) (hName 9))) (sSeq (sSet 4 (eOp gAdd (hName 4) (hVal (eTup (aCons (hVal (eTup (aCons (hVal (eVar 7)) (aCons (hVal (eOp gDiv (hName 6) (hVal (eOp gIx (hName 3) (hVal (eOp gSub (hName 5) (hName 7))))))) aNil)))) aNil)))))
  (sSeq (sPar [6, 5] (mP (eOp gMod (hVal (eCall (g1 dInt) (aCons (hName 6) aNil))) (hVal (eOp gIx (hName 3) (hVal (eOp gSub (hName 5) (hName 7)))))) (mP (eOp gSub (hName 5) (hName 7)) mNil)))
  sBreak)) sNext)
  (sAug (fun i j => i - j) 6 (eVar 9)))) sNext)) 300)
  (sRet (eVar 4))))))
def F_row_at : List D → Option D := runV 10 s_row_at
theorem body_row_at {P : Program} {ww : World} {K : PySem.W.Frag} {mg : Str → Option Value} {base : Heap} {f : Addr} (B : Bl mg) (G_counts : Gal P ww K mg base 4 "counts" (spV 2 K F_counts)) (G_is_within : Gal P ww K mg base 2 "is_within" (spV 3 K F_is_within)) : Body P ww K mg base N_row_at 4 "row_at" st_row_at f s_row_at := by
  intro S cdv A outer s H E hr hG
  have nd : N_row_at.Nodup := sc_row_at.nd
  have G_is_within := G_is_within.mono (k' := 4) (by decide)
  exact (pssd_cons (psd_set (i := 3) nd rfl (.inl rfl) (pd_gal G_counts hG hr (by rfl) (pdm_p (pd_var (pv 0)) (pdm_p (pd_var (pv 1)) pdm_nil)) (mlen_p (mlen_p mlen_nil))))
  (pssd_cons (psd_if (pdt_not (pdt_val (pd_gal G_is_within hG hr (by rfl) (pdm_p (pd_var (pv 2)) (pdm_p (pd_int pe_int) (pdm_p (pd_op op_sub d_sub (ph_val (pd_ix ix_seq d_ix (ph_name (pv 3)) (ph_name (pv 1)) (fun _ _ => rfl))) (ph_val (pd_int pe_int))) pdm_nil))) (mlen_p (mlen_p (mlen_p mlen_nil)))))) (pssd_one psd_never) pssd_nil)
  (pssd_cons (psd_par3 (i := 4) (j := 5) (l := 6) rfl nd rfl rfl rfl (by decide) (by decide) (by decide) rfl rfl rfl (pdm_p (pd_tup pda_nil) (pdm_p (pd_var (pv 1)) (pdm_p (pd_var (pv 2)) pdm_nil))) (by rfl))
  (pssd_cons (psd_while 300 PassesOwn.never (pdt_cmp op_gt d_gt (ph_name (pv 5)) (ph_val (pd_int pe_int)) (nomark _)) (pssd_one (psd_for PassesOwn.never rfl (pdi_seq (pd_var (pv 0))) (pgd_tup rfl (pgsd_cons (pgd_name (i := 7) nd rfl (.inl rfl)) (pgsd_cons (pgd_name (i := 8) nd rfl (.inl rfl)) pgsd_nil))) (pssd_one (psd_if (pdt_cmp op_le d_le (ph_name (pv 7)) (ph_name (pv 5)) (nomark _)) (pssd_cons (psd_set (i := 9) nd rfl (.inl rfl) (pd_op r_mul d_mul (ph_name (pv 8)) (ph_val (pd_ix ix_seq d_ix (ph_name (pv 3)) (ph_val (pd_op op_sub d_sub (ph_name (pv 5)) (ph_name (pv 7)))) (fun _ _ => rfl)))))
  (pssd_cons (psd_if (pdt_cmp op_lt d_lt (ph_name (pv 6)) (ph_name (pv 9)) (nomark _)) (pssd_cons (psd_set (i := 4) nd rfl (.inl rfl) (pd_op r_add d_add (ph_name (pv 4)) (ph_val (pd_tup (pda_cons (ph_val (pd_tup (pda_cons (ph_val (pd_var (pv 7))) (pda_cons (ph_val (pd_op op_fdivW d_div (ph_name (pv 6)) (ph_val (pd_ix ix_seq d_ix (ph_name (pv 3)) (ph_val (pd_op op_sub d_sub (ph_name (pv 5)) (ph_name (pv 7)))) (fun _ _ => rfl))))) pda_nil)))) pda_nil)))))
  (pssd_cons (psd_par (i := 6) (j := 5) rfl nd rfl rfl (by decide) rfl rfl (pdm_p (pd_op op_mod d_mod (ph_val (pd_callT call_int1 d_int (by rfl) B.int (by decide +kernel) (pda_cons (ph_name (pv 6)) pda_nil))) (ph_val (pd_ix ix_seq d_ix (ph_name (pv 3)) (ph_val (pd_op op_sub d_sub (ph_name (pv 5)) (ph_name (pv 7)))) (fun _ _ => rfl)))) (pdm_p (pd_op op_sub d_sub (ph_name (pv 5)) (ph_name (pv 7))) pdm_nil)) (by rfl))
  (pssd_one psd_break))) pssd_nil)
  (pssd_one (psd_aug (i := 6) ip_sub nd rfl (.inl rfl) (pd_var (pv 9)))))) pssd_nil)))))
  (pssd_one (psd_ret (pd_var (pv 4))))))))
theorem gal_row_at {P : Program} {ww : World} {K : PySem.W.Frag} {mg : Str → Option Value} {base : Heap} {f : Addr} {fd : FuncData} (F : L2.Fun K "row_at" "row_at" st_row_at f fd) (hm : mg "row_at" = some (.ref f)) (b : Binds K fd ["rods", "length", "place"] []) (B : Bl mg) (G_counts : Gal P ww K mg base 4 "counts" (spV 2 K F_counts)) (G_is_within : Gal P ww K mg base 2 "is_within" (spV 3 K F_is_within)) : Gal P ww K mg base 5 "row_at" (spV 3 K F_row_at) :=
  galV F hm b sc_row_at (body_row_at B G_counts G_is_within)
/-! ### mirrored_counts -/
abbrev st_mirrored_counts : Stmt := topS 20
abbrev N_mirrored_counts : List Str := ["rods", "most", "told", "found", "middles", "length", "here", "rod"]
theorem sc_mirrored_counts : FnScope N_mirrored_counts ["rods", "most"] (defScope st_mirrored_counts) := ⟨rfl, rfl, rfl, by decide +kernel, rfl, by decide +kernel, by decide +kernel⟩
def s_mirrored_counts : SX := (sSeq (sPar [2, 3] (mP (eFn F_counts (mP (eVar 0) (mP (eVar 1) mNil))) (mO (oLst aNil) mNil)))
  (sSeq (sSetO 4 (oCall cDict (aCons (hVal (eOwn (oCall (c1 cList) (aCons (hName 0) aNil)))) aNil)))
  (sSeq (sFor (iRange rg1 (aCons (hVal (eOp gAdd (hName 1) (hVal (eC (.int 1))))) aNil)) (txN 5) (sSeq (sSet 6 (eIf (bE (eOp gEq (hVal (eOp gMod (hVal (eCall (g1 dInt) (aCons (hName 5) aNil))) (hVal (eC (.int 2))))) (hVal (eC (.int 0))))) (eOp gIx (hName 2) (hVal (eOp gDiv (hName 5) (hVal (eC (.int 2)))))) (eC (.int 0))))
  (sSeq (sForK 4 (txN 7) (sIf (bAnd (bE (eOp gLe (hName 7) (hName 5))) (bE (eOp gEq (hVal (eOp gMod (hVal (eCall (g1 dInt) (aCons (hVal (eOp gSub (hName 5) (hName 7))) aNil))) (hVal (eC (.int 2))))) (hVal (eC (.int 0)))))) (sAug (fun i j => i + j) 6 (eOp gMul (hVal (eOp gGet (hName 4) (hName 7))) (hVal (eOp gIx (hName 2) (hVal (eOp gDiv (hVal (eOp gSub (hName 5) (hName 7))) (hVal (eC (.int 2))))))))) sNext))
  (sApp 3 (eVar 6)))))
  (sRet (eCall (g1 dTuple) (aCons (hName 3) aNil))))))
def F_mirrored_counts : List D → Option D := runV 8 s_mirrored_counts
theorem body_mirrored_counts {P : Program} {ww : World} {K : PySem.W.Frag} {mg : Str → Option Value} {base : Heap} {f : Addr} (B : Bl mg) (G_counts : Gal P ww K mg base 4 "counts" (spV 2 K F_counts)) : Body P ww K mg base N_mirrored_counts 4 "mirrored_counts" st_mirrored_counts f s_mirrored_counts := by
  intro S cdv A outer s H E hr hG
  have nd : N_mirrored_counts.Nodup := sc_mirrored_counts.nd
  exact (pssd_cons (psd_par (i := 2) (j := 3) rfl nd rfl rfl (by decide) rfl rfl (pdm_p (pd_gal G_counts hG hr (by rfl) (pdm_p (pd_var (pv 0)) (pdm_p (pd_var (pv 1)) pdm_nil)) (mlen_p (mlen_p mlen_nil))) (pdm_o (po_lst pda_nil) (fun S => pdm_nil))) (by rfl))
  (pssd_cons (psd_setO (i := 4) nd rfl (.inl rfl) (po_callT (call_dictP rfl) o_dict (by rfl) B.dict (by decide +kernel) (pda_cons (ph_val (pd_own (po_callT call_list_of o_list (by rfl) B.list (by decide +kernel) (pda_cons (ph_name (pv 0)) pda_nil)))) pda_nil)))
  (pssd_cons (psd_for PassesOwn.never rfl (pdi_range1 (by rfl) B.range (pda_cons (ph_val (pd_op r_add d_add (ph_name (pv 1)) (ph_val (pd_int pe_int)))) pda_nil)) (pgd_name (i := 5) nd rfl (.inl rfl)) (pssd_cons (psd_set (i := 6) nd rfl (.inl rfl) (pd_if (pdt_cmp (r_eq hr.units) d_eq (ph_val (pd_op op_mod d_mod (ph_val (pd_callT call_int1 d_int (by rfl) B.int (by decide +kernel) (pda_cons (ph_name (pv 5)) pda_nil))) (ph_val (pd_int pe_int)))) (ph_val (pd_int pe_int)) (nomark _)) (pd_ix ix_seq d_ix (ph_name (pv 2)) (ph_val (pd_op op_fdivW d_div (ph_name (pv 5)) (ph_val (pd_int pe_int)))) (fun _ _ => rfl)) (pd_int pe_int)))
  (pssd_cons (psd_forK PassesOwn.never rfl (pv 4) (pgd_name (i := 7) nd rfl (.inl rfl)) (pssd_one (psd_if (pdt_bool (pdw_and (pdt_cmp op_le d_le (ph_name (pv 7)) (ph_name (pv 5)) (nomark _)) (pdw_and1 (pdt_cmp (r_eq hr.units) d_eq (ph_val (pd_op op_mod d_mod (ph_val (pd_callT call_int1 d_int (by rfl) B.int (by decide +kernel) (pda_cons (ph_val (pd_op op_sub d_sub (ph_name (pv 5)) (ph_name (pv 7)))) pda_nil))) (ph_val (pd_int pe_int)))) (ph_val (pd_int pe_int)) (nomark _))))) (pssd_one (psd_aug (i := 6) ip_add nd rfl (.inl rfl) (pd_op r_mul d_mul (ph_val (pd_dget (hu_of hr) (ph_name (pv 4)) (ph_name (pv 7)) (fun _ _ => rfl))) (ph_val (pd_ix ix_seq d_ix (ph_name (pv 2)) (ph_val (pd_op op_fdivW d_div (ph_val (pd_op op_sub d_sub (ph_name (pv 5)) (ph_name (pv 7)))) (ph_val (pd_int pe_int)))) (fun _ _ => rfl)))))) pssd_nil)))
  (pssd_one (psd_app (pv 3) (pd_var (pv 6)))))))
  (pssd_one (psd_ret (pd_callT call_tuple_of d_tuple (by rfl) B.tuple (by decide +kernel) (pda_cons (ph_name (pv 3)) pda_nil)))))))
theorem gal_mirrored_counts {P : Program} {ww : World} {K : PySem.W.Frag} {mg : Str → Option Value} {base : Heap} {f : Addr} {fd : FuncData} (F : L2.Fun K "mirrored_counts" "mirrored_counts" st_mirrored_counts f fd) (hm : mg "mirrored_counts" = some (.ref f)) (b : Binds K fd ["rods", "most"] []) (B : Bl mg) (G_counts : Gal P ww K mg base 4 "counts" (spV 2 K F_counts)) : Gal P ww K mg base 5 "mirrored_counts" (spV 2 K F_mirrored_counts) :=
  galV F hm b sc_mirrored_counts (body_mirrored_counts B G_counts)
/-! ### unlike_counts -/
abbrev st_unlike_counts : Stmt := topS 21
abbrev N_unlike_counts : List Str := ["rods", "most", "told", "same", "one", "other"]
theorem sc_unlike_counts : FnScope N_unlike_counts ["rods", "most"] (defScope st_unlike_counts) := ⟨rfl, rfl, rfl, by decide +kernel, rfl, by decide +kernel, by decide +kernel⟩
def s_unlike_counts : SX := (sSeq (sPar [2, 3] (mP (eFn F_counts (mP (eVar 0) (mP (eVar 1) mNil))) (mP (eFn F_mirrored_counts (mP (eVar 0) (mP (eVar 1) mNil))) mNil)))
  (sRet (eCall (g1 dTuple) (aCons (hVal (eOwn (oLc (iZipD (eVar 2) (eVar 3)) (txT 2 (txsCons (txN 4) (txsCons (txN 5) txsNil))) bYes (eOp gDiv (hVal (eOp gAdd (hName 4) (hName 5))) (hVal (eC (.int 2)))) [4, 5]))) aNil))))
def F_unlike_counts : List D → Option D := runV 6 s_unlike_counts
theorem body_unlike_counts {P : Program} {ww : World} {K : PySem.W.Frag} {mg : Str → Option Value} {base : Heap} {f : Addr} (B : Bl mg) (G_mirrored_counts : Gal P ww K mg base 5 "mirrored_counts" (spV 2 K F_mirrored_counts)) (G_counts : Gal P ww K mg base 4 "counts" (spV 2 K F_counts)) : Body P ww K mg base N_unlike_counts 5 "unlike_counts" st_unlike_counts f s_unlike_counts := by
  intro S cdv A outer s H E hr hG
  have nd : N_unlike_counts.Nodup := sc_unlike_counts.nd
  have G_counts := G_counts.mono (k' := 5) (by decide)
  exact (pssd_cons (psd_par (i := 2) (j := 3) rfl nd rfl rfl (by decide) rfl rfl (pdm_p (pd_gal G_counts hG hr (by rfl) (pdm_p (pd_var (pv 0)) (pdm_p (pd_var (pv 1)) pdm_nil)) (mlen_p (mlen_p mlen_nil))) (pdm_p (pd_gal G_mirrored_counts hG hr (by rfl) (pdm_p (pd_var (pv 0)) (pdm_p (pd_var (pv 1)) pdm_nil)) (mlen_p (mlen_p mlen_nil))) pdm_nil)) (by rfl))
  (pssd_one (psd_ret (pd_callT call_tuple_of d_tuple (by rfl) B.tuple (by decide +kernel) (pda_cons (ph_val (pd_own (pod_lc rfl nd (pdi_zip (by rfl) B.zip (pd_var (pv 2)) (pd_var (pv 3))) (own := [("one", 4), ("other", 5)]) (by exact blkOk_by (N := N_unlike_counts) (sc := defScope st_unlike_counts) (own := [("one", 4), ("other", 5)]) (by decide +kernel)) ⟨fun S s H C cl fp => (pgd_tup rfl (pgsd_cons (pgd_name (i := 4) nd rfl (.inl rfl)) (pgsd_cons (pgd_name (i := 5) nd rfl (.inl rfl)) pgsd_nil))), fun S s H C cl fp => ptd_nil, fun S s H C cl fp => (pd_op op_fdivW d_div (ph_val (pd_op r_add d_add (ph_name (pv 4)) (ph_name (pv 5)))) (ph_val (pd_int pe_int)))⟩ (by decide) (tg_tup (tgs_cons (tg_name (by decide)) (tgs_cons (tg_name (by decide)) tgs_nil)))))) pda_nil)))))
theorem gal_unlike_counts {P : Program} {ww : World} {K : PySem.W.Frag} {mg : Str → Option Value} {base : Heap} {f : Addr} {fd : FuncData} (F : L2.Fun K "unlike_counts" "unlike_counts" st_unlike_counts f fd) (hm : mg "unlike_counts" = some (.ref f)) (b : Binds K fd ["rods", "most"] []) (B : Bl mg) (G_mirrored_counts : Gal P ww K mg base 5 "mirrored_counts" (spV 2 K F_mirrored_counts)) (G_counts : Gal P ww K mg base 4 "counts" (spV 2 K F_counts)) : Gal P ww K mg base 6 "unlike_counts" (spV 2 K F_unlike_counts) :=
  galV F hm b sc_unlike_counts (body_unlike_counts B G_mirrored_counts G_counts)
/-! ### round_counts -/
abbrev st_round_counts : Stmt := topS 22
abbrev N_round_counts : List Str := ["rods", "most", "told", "found", "length", "here", "rod", "colours"]
theorem sc_round_counts : FnScope N_round_counts ["rods", "most"] (defScope st_round_counts) := ⟨rfl, rfl, rfl, by decide +kernel, rfl, by decide +kernel, by decide +kernel⟩
def s_round_counts : SX := (sSeq (sPar [2, 3] (mP (eFn F_counts (mP (eVar 0) (mP (eVar 1) mNil))) (mO (oLst aNil) mNil)))
  (sSeq (sFor (iRange rg2 (aCons (hVal (eC (.int 1))) (aCons (hVal (eOp gAdd (hName 1) (hVal (eC (.int 1))))) aNil))) (txN 4) (sSeq (sSet 5 (eC (.int 0)))
  (sSeq (sFor (iSeq (eVar 0)) (txT 2 (txsCons (txN 6) (txsCons (txN 7) txsNil))) (sIf (bE (eOp gLe (hName 6) (hName 4))) (sAug (fun i j => i + j) 5 (eOp gMul (hVal (eOp gMul (hName 6) (hName 7))) (hVal (eOp gIx (hName 2) (hVal (eOp gSub (hName 4) (hName 6))))))) sNext))
  (sApp 3 (eVar 5)))))
  (sRet (eCall (g1 dTuple) (aCons (hName 3) aNil)))))
def F_round_counts : List D → Option D := runV 8 s_round_counts
theorem body_round_counts {P : Program} {ww : World} {K : PySem.W.Frag} {mg : Str → Option Value} {base : Heap} {f : Addr} (B : Bl mg) (G_counts : Gal P ww K mg base 4 "counts" (spV 2 K F_counts)) : Body P ww K mg base N_round_counts 4 "round_counts" st_round_counts f s_round_counts := by
  intro S cdv A outer s H E hr hG
  have nd : N_round_counts.Nodup := sc_round_counts.nd
  exact (pssd_cons (psd_par (i := 2) (j := 3) rfl nd rfl rfl (by decide) rfl rfl (pdm_p (pd_gal G_counts hG hr (by rfl) (pdm_p (pd_var (pv 0)) (pdm_p (pd_var (pv 1)) pdm_nil)) (mlen_p (mlen_p mlen_nil))) (pdm_o (po_lst pda_nil) (fun S => pdm_nil))) (by rfl))
  (pssd_cons (psd_for PassesOwn.never rfl (pdi_range2 (by rfl) B.range (pda_cons (ph_val (pd_int pe_int)) (pda_cons (ph_val (pd_op r_add d_add (ph_name (pv 1)) (ph_val (pd_int pe_int)))) pda_nil))) (pgd_name (i := 4) nd rfl (.inl rfl)) (pssd_cons (psd_set (i := 5) nd rfl (.inl rfl) (pd_int pe_int))
  (pssd_cons (psd_for PassesOwn.never rfl (pdi_seq (pd_var (pv 0))) (pgd_tup rfl (pgsd_cons (pgd_name (i := 6) nd rfl (.inl rfl)) (pgsd_cons (pgd_name (i := 7) nd rfl (.inl rfl)) pgsd_nil))) (pssd_one (psd_if (pdt_cmp op_le d_le (ph_name (pv 6)) (ph_name (pv 4)) (nomark _)) (pssd_one (psd_aug (i := 5) ip_add nd rfl (.inl rfl) (pd_op r_mul d_mul (ph_val (pd_op r_mul d_mul (ph_name (pv 6)) (ph_name (pv 7)))) (ph_val (pd_ix ix_seq d_ix (ph_name (pv 2)) (ph_val (pd_op op_sub d_sub (ph_name (pv 4)) (ph_name (pv 6)))) (fun _ _ => rfl)))))) pssd_nil)))
  (pssd_one (psd_app (pv 3) (pd_var (pv 5)))))))
  (pssd_one (psd_ret (pd_callT call_tuple_of d_tuple (by rfl) B.tuple (by decide +kernel) (pda_cons (ph_name (pv 3)) pda_nil))))))
theorem gal_round_counts {P : Program} {ww : World} {K : PySem.W.Frag} {mg : Str → Option Value} {base : Heap} {f : Addr} {fd : FuncData} (F : L2.Fun K "round_counts" "round_counts" st_round_counts f fd) (hm : mg "round_counts" = some (.ref f)) (b : Binds K fd ["rods", "most"] []) (B : Bl mg) (G_counts : Gal P ww K mg base 4 "counts" (spV 2 K F_counts)) : Gal P ww K mg base 5 "round_counts" (spV 2 K F_round_counts) :=
  galV F hm b sc_round_counts (body_round_counts B G_counts)
/-! ### fewest -/
abbrev st_fewest : Stmt := topS 23
abbrev N_fewest : List Str := ["rods", "length", "found", "at", "some", "rod", "colours"]
theorem sc_fewest : FnScope N_fewest ["rods", "length"] (defScope st_fewest) := ⟨rfl, rfl, rfl, by decide +kernel, rfl, by decide +kernel, by decide +kernel⟩
def s_fewest : SX := (sSeq (sDrop (eFn F_check_rods (mP (eVar 0) mNil)))
  (sSeq (sDrop (eFn F_check_number (mP (eVar 1) (mP (eC (.int 0)) (mP (eC (.int 400)) mNil)))))
  (sSeq (sSetO 2 (oOp cCat (hVal (eOwn (oLst (aCons (hVal (eC (.int 0))) aNil)))) (hVal (eOwn (oOp cRep (hVal (eOwn (oLst (aCons (hVal (eC .non)) aNil)))) (hName 1))))))
  (sSeq (sFor (iRange rg2 (aCons (hVal (eC (.int 1))) (aCons (hVal (eOp gAdd (hName 1) (hVal (eC (.int 1))))) aNil))) (txN 3) (sSeq (sSetO 4 (oLc (iSeq (eVar 0)) (txT 2 (txsCons (txN 5) (txsCons (txN 6) txsNil))) (bAnd (bE (eOp gLe (hName 5) (hName 3))) (bE (eIsN true (hVal (eOp gIx (hName 2) (hVal (eOp gSub (hName 3) (hName 5)))))))) (eOp gIx (hName 2) (hVal (eOp gSub (hName 3) (hName 5)))) [5, 6]))
  (sPut 2 (hName 3) (eIf (bE (eOp gNe (hName 4) (hVal (eOwn (oLst aNil))))) (eOp gAdd (hVal (eC (.int 1))) (hVal (eCall (g1 dMinL) (aCons (hName 4) aNil)))) (eC .non)))))
  (sRet (eOp gIx (hName 2) (hName 1)))))))
def F_fewest : List D → Option D := runV 7 s_fewest
theorem body_fewest {P : Program} {ww : World} {K : PySem.W.Frag} {mg : Str → Option Value} {base : Heap} {f : Addr} (B : Bl mg) (m_MOST_LONG : ∃ t, mg "MOST_LONG" = some (.int 400 t)) (G_check_rods : Gal P ww K mg base 3 "check_rods" (spV 1 K F_check_rods)) (G_check_number : Gal P ww K mg base 3 "check_number" (spV 3 K F_check_number)) : Body P ww K mg base N_fewest 3 "fewest" st_fewest f s_fewest := by
  intro S cdv A outer s H E hr hG
  have nd : N_fewest.Nodup := sc_fewest.nd
  obtain ⟨t_MOST_LONG, e_MOST_LONG⟩ := m_MOST_LONG
  have c_MOST_LONG : ∀ {X : Cx} {pos : Pos}, X.mg = mg → Gl X "MOST_LONG" → PE X (.Name "MOST_LONG" pos) (tC (.int 400)) := fun hm hg => pe_glob hg (by rw [hm]; exact e_MOST_LONG) ⟨_, rfl⟩
  exact (pssd_cons (psd_expr (pd_gal G_check_rods hG hr (by rfl) (pdm_p (pd_var (pv 0)) pdm_nil) (mlen_p mlen_nil)))
  (pssd_cons (psd_expr (pd_gal G_check_number hG hr (by rfl) (pdm_p (pd_var (pv 1)) (pdm_p (pd_int pe_int) (pdm_p (pd_int (c_MOST_LONG rfl (by rfl))) pdm_nil))) (mlen_p (mlen_p (mlen_p mlen_nil)))))
  (pssd_cons (psd_setO (i := 2) nd rfl (.inr rfl) (po_op op_cat o_cat (ph_val (pd_own (po_lst (pda_cons (ph_val (pd_int pe_int)) pda_nil)))) (ph_val (pd_own (po_op op_rep o_rep (ph_val (pd_own (po_lst (pda_cons (ph_val (pd_non pe_non)) pda_nil)))) (ph_name (pv 1)))))))
  (pssd_cons (psd_for PassesOwn.never rfl (pdi_range2 (by rfl) B.range (pda_cons (ph_val (pd_int pe_int)) (pda_cons (ph_val (pd_op r_add d_add (ph_name (pv 1)) (ph_val (pd_int pe_int)))) pda_nil))) (pgd_name (i := 3) nd rfl (.inr rfl)) (pssd_cons (psd_setLc (i := 4) rfl nd rfl rfl (sw_true rfl rfl rfl rfl) (pdi_seq (pd_var (pv 0))) (own := [("rod", 5), ("colours", 6)]) (by exact blkOk_by (N := N_fewest) (sc := defScope st_fewest) (own := [("rod", 5), ("colours", 6)]) (by decide +kernel)) ⟨fun S s H C cl fp => (pgd_tup rfl (pgsd_cons (pgd_name (i := 5) nd rfl (.inl rfl)) (pgsd_cons (pgd_name (i := 6) nd rfl (.inl rfl)) pgsd_nil))), fun S s H C cl fp => (ptd_one (pdt_bool (pdw_and (pdt_cmp op_le d_le (ph_name (pv 5)) (ph_name (pv 3)) (nomark _)) (pdw_and1 (pdt_notN (ph_val (pd_ix ix_seq d_ix (ph_name (pv 2)) (ph_val (pd_op op_sub d_sub (ph_name (pv 3)) (ph_name (pv 5)))) (fun _ _ => rfl)))))))), fun S s H C cl fp => (pd_ix ix_seq d_ix (ph_name (pv 2)) (ph_val (pd_op op_sub d_sub (ph_name (pv 3)) (ph_name (pv 5)))) (fun _ _ => rfl))⟩ (by decide) (tg_tup (tgs_cons (tg_name (by decide)) (tgs_cons (tg_name (by decide)) tgs_nil))))
  (pssd_one (psd_put (pv 2) (ph_name (pv 3)) (pd_if (pdt_cmp (op_neD hr.units) d_ne (ph_name (pv 4)) (ph_val (pd_own (po_lst pda_nil))) (nomark _)) (pd_op r_add d_add (ph_val (pd_int pe_int)) (ph_val (pd_callB (cr_min rfl) d_minL (by rfl) B.min (by decide +kernel) (pda_cons (ph_name (pv 4)) pda_nil)))) (pd_non pe_non))))))
  (pssd_one (psd_ret (pd_ix ix_seq d_ix (ph_name (pv 2)) (ph_name (pv 1)) (fun _ _ => rfl))))))))
theorem gal_fewest {P : Program} {ww : World} {K : PySem.W.Frag} {mg : Str → Option Value} {base : Heap} {f : Addr} {fd : FuncData} (F : L2.Fun K "fewest" "fewest" st_fewest f fd) (hm : mg "fewest" = some (.ref f)) (b : Binds K fd ["rods", "length"] []) (B : Bl mg) (m_MOST_LONG : ∃ t, mg "MOST_LONG" = some (.int 400 t)) (G_check_rods : Gal P ww K mg base 3 "check_rods" (spV 1 K F_check_rods)) (G_check_number : Gal P ww K mg base 3 "check_number" (spV 3 K F_check_number)) : Gal P ww K mg base 4 "fewest" (spV 2 K F_fewest) :=
  galV F hm b sc_fewest (body_fewest B m_MOST_LONG G_check_rods G_check_number)
/-! ### mean_rods -/
abbrev st_mean_rods : Stmt := topS 24
abbrev N_mean_rods : List Str := ["rods", "length", "told", "found", "at", "here", "rod", "colours"]
theorem sc_mean_rods : FnScope N_mean_rods ["rods", "length"] (defScope st_mean_rods) := ⟨rfl, rfl, rfl, by decide +kernel, rfl, by decide +kernel, by decide +kernel⟩
def s_mean_rods : SX := (sSeq (sSet 2 (eFn F_counts (mP (eVar 0) (mP (eVar 1) mNil))))
  (sSeq (sSetO 3 (oLst (aCons (hVal (eC (.int 0))) aNil)))
  (sSeq (sFor (iRange rg2 (aCons (hVal (eC (.int 1))) (aCons (hVal (eOp gAdd (hName 1) (hVal (eC (.int 1))))) aNil))) (txN 4) (sSeq (sSet 5 (eC (.int 0)))
  (sSeq (sFor (iSeq (eVar 0)) (txT 2 (txsCons (txN 6) (txsCons (txN 7) txsNil))) (sIf (bE (eOp gLe (hName 6) (hName 4))) (sAug (fun i j => i + j) 5 (eOp gMul (hName 7) (hVal (eOp gAdd (hVal (eOp gIx (hName 3) (hVal (eOp gSub (hName 4) (hName 6))))) (hVal (eOp gIx (hName 2) (hVal (eOp gSub (hName 4) (hName 6))))))))) sNext))
  (sApp 3 (eVar 5)))))
  (sRet (eOp gIx (hName 3) (hName 1))))))
def F_mean_rods : List D → Option D := runV 8 s_mean_rods
theorem body_mean_rods {P : Program} {ww : World} {K : PySem.W.Frag} {mg : Str → Option Value} {base : Heap} {f : Addr} (B : Bl mg) (G_counts : Gal P ww K mg base 4 "counts" (spV 2 K F_counts)) : Body P ww K mg base N_mean_rods 4 "mean_rods" st_mean_rods f s_mean_rods := by
  intro S cdv A outer s H E hr hG
  have nd : N_mean_rods.Nodup := sc_mean_rods.nd
  exact (pssd_cons (psd_set (i := 2) nd rfl (.inl rfl) (pd_gal G_counts hG hr (by rfl) (pdm_p (pd_var (pv 0)) (pdm_p (pd_var (pv 1)) pdm_nil)) (mlen_p (mlen_p mlen_nil))))
  (pssd_cons (psd_setO (i := 3) nd rfl (.inl rfl) (po_lst (pda_cons (ph_val (pd_int pe_int)) pda_nil)))
  (pssd_cons (psd_for PassesOwn.never rfl (pdi_range2 (by rfl) B.range (pda_cons (ph_val (pd_int pe_int)) (pda_cons (ph_val (pd_op r_add d_add (ph_name (pv 1)) (ph_val (pd_int pe_int)))) pda_nil))) (pgd_name (i := 4) nd rfl (.inl rfl)) (pssd_cons (psd_set (i := 5) nd rfl (.inl rfl) (pd_int pe_int))
  (pssd_cons (psd_for PassesOwn.never rfl (pdi_seq (pd_var (pv 0))) (pgd_tup rfl (pgsd_cons (pgd_name (i := 6) nd rfl (.inl rfl)) (pgsd_cons (pgd_name (i := 7) nd rfl (.inl rfl)) pgsd_nil))) (pssd_one (psd_if (pdt_cmp op_le d_le (ph_name (pv 6)) (ph_name (pv 4)) (nomark _)) (pssd_one (psd_aug (i := 5) ip_add nd rfl (.inl rfl) (pd_op r_mul d_mul (ph_name (pv 7)) (ph_val (pd_op r_add d_add (ph_val (pd_ix ix_seq d_ix (ph_name (pv 3)) (ph_val (pd_op op_sub d_sub (ph_name (pv 4)) (ph_name (pv 6)))) (fun _ _ => rfl))) (ph_val (pd_ix ix_seq d_ix (ph_name (pv 2)) (ph_val (pd_op op_sub d_sub (ph_name (pv 4)) (ph_name (pv 6)))) (fun _ _ => rfl)))))))) pssd_nil)))
  (pssd_one (psd_app (pv 3) (pd_var (pv 5)))))))
  (pssd_one (psd_ret (pd_ix ix_seq d_ix (ph_name (pv 3)) (ph_name (pv 1)) (fun _ _ => rfl)))))))
theorem gal_mean_rods {P : Program} {ww : World} {K : PySem.W.Frag} {mg : Str → Option Value} {base : Heap} {f : Addr} {fd : FuncData} (F : L2.Fun K "mean_rods" "mean_rods" st_mean_rods f fd) (hm : mg "mean_rods" = some (.ref f)) (b : Binds K fd ["rods", "length"] []) (B : Bl mg) (G_counts : Gal P ww K mg base 4 "counts" (spV 2 K F_counts)) : Gal P ww K mg base 5 "mean_rods" (spV 2 K F_mean_rods) :=
  galV F hm b sc_mean_rods (body_mean_rods B G_counts)
/-! ### broken_at -/
abbrev st_broken_at : Stmt := topS 25
abbrev N_broken_at : List Str := ["rods", "length", "place", "told"]
theorem sc_broken_at : FnScope N_broken_at ["rods", "length", "place"] (defScope st_broken_at) := ⟨rfl, rfl, rfl, by decide +kernel, rfl, by decide +kernel, by decide +kernel⟩
def s_broken_at : SX := (sSeq (sSet 3 (eFn F_counts (mP (eVar 0) (mP (eVar 1) mNil))))
  (sSeq (sDrop (eFn F_check_number (mP (eVar 2) (mP (eC (.int 0)) (mP (eVar 1) mNil)))))
  (sRet (eOp gMul (hVal (eOp gIx (hName 3) (hName 2))) (hVal (eOp gIx (hName 3) (hVal (eOp gSub (hName 1) (hName 2)))))))))
def F_broken_at : List D → Option D := runV 4 s_broken_at
theorem body_broken_at {P : Program} {ww : World} {K : PySem.W.Frag} {mg : Str → Option Value} {base : Heap} {f : Addr} (B : Bl mg) (G_counts : Gal P ww K mg base 4 "counts" (spV 2 K F_counts)) (G_check_number : Gal P ww K mg base 3 "check_number" (spV 3 K F_check_number)) : Body P ww K mg base N_broken_at 4 "broken_at" st_broken_at f s_broken_at := by
  intro S cdv A outer s H E hr hG
  have nd : N_broken_at.Nodup := sc_broken_at.nd
  have G_check_number := G_check_number.mono (k' := 4) (by decide)
  exact (pssd_cons (psd_set (i := 3) nd rfl (.inl rfl) (pd_gal G_counts hG hr (by rfl) (pdm_p (pd_var (pv 0)) (pdm_p (pd_var (pv 1)) pdm_nil)) (mlen_p (mlen_p mlen_nil))))
  (pssd_cons (psd_expr (pd_gal G_check_number hG hr (by rfl) (pdm_p (pd_var (pv 2)) (pdm_p (pd_int pe_int) (pdm_p (pd_var (pv 1)) pdm_nil))) (mlen_p (mlen_p (mlen_p mlen_nil)))))
  (pssd_one (psd_ret (pd_op r_mul d_mul (ph_val (pd_ix ix_seq d_ix (ph_name (pv 3)) (ph_name (pv 2)) (fun _ _ => rfl))) (ph_val (pd_ix ix_seq d_ix (ph_name (pv 3)) (ph_val (pd_op op_sub d_sub (ph_name (pv 1)) (ph_name (pv 2)))) (fun _ _ => rfl))))))))
theorem gal_broken_at {P : Program} {ww : World} {K : PySem.W.Frag} {mg : Str → Option Value} {base : Heap} {f : Addr} {fd : FuncData} (F : L2.Fun K "broken_at" "broken_at" st_broken_at f fd) (hm : mg "broken_at" = some (.ref f)) (b : Binds K fd ["rods", "length", "place"] []) (B : Bl mg) (G_counts : Gal P ww K mg base 4 "counts" (spV 2 K F_counts)) (G_check_number : Gal P ww K mg base 3 "check_number" (spV 3 K F_check_number)) : Gal P ww K mg base 5 "broken_at" (spV 3 K F_broken_at) :=
  galV F hm b sc_broken_at (body_broken_at B G_counts G_check_number)
/-! ### _law_hand -/
abbrev st__law_hand : Stmt := topS 27
abbrev N__law_hand : List Str := ["script", "cells", "cell"]
theorem sc__law_hand : FnScope N__law_hand ["script"] (defScope st__law_hand) := ⟨rfl, rfl, rfl, by decide +kernel, rfl, by decide +kernel, by decide +kernel⟩
def s__law_hand : SX := (sSeq (sSetO 1 (oLc (iSeq (eSl gSl (hName 0) pNo (pSo (eC (.int 63))))) (txN 2) bYes (eOp gMod (hVal (eCall (g1 dInt) (aCons (hVal (eCall (g1 dAbs) (aCons (hVal (eCall (g1 dInt) (aCons (hName 2) aNil))) aNil))) aNil))) (hVal (eOp gPow (hVal (eC (.int 10))) (hVal (eC (.int 40)))))) [2]))
  (sRetO (oLst (aCons (hVal (eVar 1)) (aCons (hVal (eC (.int 0))) (aCons (hVal (eC (.int 0))) (aCons (hVal (eOp gAdd (hVal (eC (.int 7451))) (hVal (eOp gMul (hVal (eC (.int 37))) (hVal (eCall (g1 dLen) (aCons (hName 1) aNil))))))) (aCons (hVal (eC (.int 0))) aNil))))))))
def F__law_hand : List D → Option Ct := runO 3 s__law_hand
theorem body__law_hand {P : Program} {ww : World} {K : PySem.W.Frag} {mg : Str → Option Value} {base : Heap} {f : Addr} (B : Bl mg) : Body P ww K mg base N__law_hand 0 "_law_hand" st__law_hand f s__law_hand := by
  intro S cdv A outer s H E hr hG
  have nd : N__law_hand.Nodup := sc__law_hand.nd
  exact (pssd_cons (psd_setLc (i := 1) rfl nd rfl rfl (sw_true rfl rfl rfl rfl) (pdi_seq (pd_sl r_sl d_sl (ph_name (pv 0)) pdp_none (pdp_some (pd_int pe_int)))) (own := [("cell", 2)]) (by exact blkOk_by (N := N__law_hand) (sc := defScope st__law_hand) (own := [("cell", 2)]) (by decide +kernel)) ⟨fun S s H C cl fp => (pgd_name (i := 2) nd rfl (.inl rfl)), fun S s H C cl fp => ptd_nil, fun S s H C cl fp => (pd_op op_mod d_mod (ph_val (pd_callT call_int1 d_int (by rfl) B.int (by decide +kernel) (pda_cons (ph_val (pd_callB call_abs d_abs (by rfl) B.abs (by decide +kernel) (pda_cons (ph_val (pd_callT call_int1 d_int (by rfl) B.int (by decide +kernel) (pda_cons (ph_name (pv 2)) pda_nil))) pda_nil))) pda_nil))) (ph_val (pd_op op_pow d_pow (ph_val (pd_int pe_int)) (ph_val (pd_int pe_int)))))⟩ (by decide) (tg_name (by decide)))
  (pssd_one (psd_retO (po_lst (pda_cons (ph_val (pd_var (pv 1))) (pda_cons (ph_val (pd_int pe_int)) (pda_cons (ph_val (pd_int pe_int)) (pda_cons (ph_val (pd_op r_add d_add (ph_val (pd_int pe_int)) (ph_val (pd_op r_mul d_mul (ph_val (pd_int pe_int)) (ph_val (pd_callB c_len d_len (by rfl) B.len (by decide +kernel) (pda_cons (ph_name (pv 1)) pda_nil))))))) (pda_cons (ph_val (pd_int pe_int)) pda_nil)))))))))
theorem gal__law_hand {P : Program} {ww : World} {K : PySem.W.Frag} {mg : Str → Option Value} {base : Heap} {f : Addr} {fd : FuncData} (F : L2.Fun K "_law_hand" "_law_hand" st__law_hand f fd) (hm : mg "_law_hand" = some (.ref f)) (b : Binds K fd ["script"] []) (B : Bl mg) : Gal P ww K mg base 1 "_law_hand" (spO 1 K F__law_hand) :=
  galO F hm b sc__law_hand (body__law_hand B)
/-! ### _law_draw -/
abbrev st__law_draw : Stmt := topS 28
abbrev N__law_draw : List Str := ["hand", "many", "cell", "digit", "number"]
theorem sc__law_draw : FnScope N__law_draw ["hand", "many"] (defScope st__law_draw) := ⟨rfl, rfl, rfl, by decide +kernel, rfl, by decide +kernel, by decide +kernel⟩
def s__law_draw : SX := (sSeq (sIf (bAnd (bE (eOp gEq (hVal (eOp gIx (hName 0) (hVal (eC (.int 2))))) (hVal (eC (.int 0))))) (bE (eOp gLt (hVal (eOp gIx (hName 0) (hVal (eC (.int 1))))) (hVal (eCall (g1 dLen) (aCons (hVal (eOp gIx (hName 0) (hVal (eC (.int 0))))) aNil)))))) (sSeq (sSet 2 (eOp gIx (hVal (eOp gIx (hName 0) (hVal (eC (.int 0))))) (hVal (eOp gIx (hName 0) (hVal (eC (.int 1)))))))
  (sSeq (sPut 0 (hVal (eC (.int 1))) (eOp gAdd (hVal (eOp gIx (hName 0) (hVal (eC (.int 1))))) (hVal (eC (.int 1)))))
  (sSeq (sPut 0 (hVal (eC (.int 3))) (eOp gMod (hVal (eCall (g1 dInt) (aCons (hVal (eOp gAdd (hVal (eOp gAdd (hVal (eOp gMul (hVal (eOp gIx (hName 0) (hVal (eC (.int 3))))) (hVal (eC (.int 69621))))) (hVal (eOp gMul (hName 2) (hVal (eC (.int 40692))))))) (hVal (eC (.int 41))))) aNil))) (hVal (eC (.int 2147483629)))))
  (sIf (bE (eOp gGe (hName 2) (hVal (eOp gPow (hVal (eC (.int 10))) (hVal (eC (.int 18))))))) (sPut 0 (hVal (eC (.int 2))) (eVar 2)) sNext)))) sNext)
  (sSeq (sIf (bE (eOp gGt (hVal (eOp gIx (hName 0) (hVal (eC (.int 2))))) (hVal (eC (.int 0))))) (sSeq (sSet 3 (eOp gMod (hVal (eCall (g1 dInt) (aCons (hVal (eOp gIx (hName 0) (hVal (eC (.int 2))))) aNil))) (hName 1)))
  (sSeq (sPut 0 (hVal (eC (.int 2))) (eOp gDiv (hVal (eOp gIx (hName 0) (hVal (eC (.int 2))))) (hName 1)))
  (sRet (eVar 3)))) sNext)
  (sSeq (sPut 0 (hVal (eC (.int 4))) (eOp gAdd (hVal (eOp gIx (hName 0) (hVal (eC (.int 4))))) (hVal (eC (.int 1)))))
  (sSeq (sSet 4 (eOp gMod (hVal (eCall (g1 dInt) (aCons (hVal (eOp gMul (hVal (eCall (g1 dInt) (aCons (hVal (eOp gAdd (hVal (eOp gIx (hName 0) (hVal (eC (.int 3))))) (hVal (eOp gMul (hVal (eC (.int 7919))) (hVal (eOp gIx (hName 0) (hVal (eC (.int 4))))))))) aNil))) (hVal (eC (.int 48271))))) aNil))) (hVal (eC (.int 2147483647)))))
  (sSeq (sSet 4 (eOp gMod (hVal (eCall (g1 dInt) (aCons (hVal (eOp gMul (hName 4) (hVal (eOp gAdd (hVal (eOp gDiv (hName 4) (hVal (eC (.int 1009))))) (hVal (eC (.int 69621))))))) aNil))) (hVal (eC (.int 2147483647)))))
  (sSeq (sSet 4 (eOp gMod (hVal (eCall (g1 dInt) (aCons (hVal (eOp gMul (hName 4) (hVal (eOp gAdd (hVal (eOp gDiv (hName 4) (hVal (eC (.int 2003))))) (hVal (eC (.int 40692))))))) aNil))) (hVal (eC (.int 2147483399)))))
  (sRet (eOp gMod (hVal (eCall (g1 dInt) (aCons (hVal (eOp gDiv (hName 4) (hVal (eC (.int 16))))) aNil))) (hName 1)))))))))
def F__law_draw : Ct → List D → Option (D × Ct) := runR 5 s__law_draw
theorem body__law_draw {P : Program} {ww : World} {K : PySem.W.Frag} {mg : Str → Option Value} {base : Heap} {f : Addr} (B : Bl mg) : Body P ww K mg base N__law_draw 0 "_law_draw" st__law_draw f s__law_draw := by
  intro S cdv A outer s H E hr hG
  have nd : N__law_draw.Nodup := sc__law_draw.nd
  exact (pssd_cons (psd_if (pdt_bool (pdw_and (pdt_cmp (r_eq hr.units) d_eq (ph_val (pd_ix ix_seq d_ix (ph_name (pv 0)) (ph_val (pd_int pe_int)) (fun _ _ => rfl))) (ph_val (pd_int pe_int)) (nomark _)) (pdw_and1 (pdt_cmp op_lt d_lt (ph_val (pd_ix ix_seq d_ix (ph_name (pv 0)) (ph_val (pd_int pe_int)) (fun _ _ => rfl))) (ph_val (pd_callB c_len d_len (by rfl) B.len (by decide +kernel) (pda_cons (ph_val (pd_ix ix_seq d_ix (ph_name (pv 0)) (ph_val (pd_int pe_int)) (fun _ _ => rfl))) pda_nil))) (nomark _))))) (pssd_cons (psd_set (i := 2) nd rfl (.inl rfl) (pd_ix ix_seq d_ix (ph_val (pd_ix ix_seq d_ix (ph_name (pv 0)) (ph_val (pd_int pe_int)) (fun _ _ => rfl))) (ph_val (pd_ix ix_seq d_ix (ph_name (pv 0)) (ph_val (pd_int pe_int)) (fun _ _ => rfl))) (fun _ _ => rfl)))
  (pssd_cons (psd_put (pv 0) (ph_val (pd_int pe_int)) (pd_op r_add d_add (ph_val (pd_ix ix_seq d_ix (ph_name (pv 0)) (ph_val (pd_int pe_int)) (fun _ _ => rfl))) (ph_val (pd_int pe_int))))
  (pssd_cons (psd_put (pv 0) (ph_val (pd_int pe_int)) (pd_op op_mod d_mod (ph_val (pd_callT call_int1 d_int (by rfl) B.int (by decide +kernel) (pda_cons (ph_val (pd_op r_add d_add (ph_val (pd_op r_add d_add (ph_val (pd_op r_mul d_mul (ph_val (pd_ix ix_seq d_ix (ph_name (pv 0)) (ph_val (pd_int pe_int)) (fun _ _ => rfl))) (ph_val (pd_int pe_int)))) (ph_val (pd_op r_mul d_mul (ph_name (pv 2)) (ph_val (pd_int pe_int)))))) (ph_val (pd_int pe_int)))) pda_nil))) (ph_val (pd_int pe_int))))
  (pssd_one (psd_if (pdt_cmp op_ge d_ge (ph_name (pv 2)) (ph_val (pd_op op_pow d_pow (ph_val (pd_int pe_int)) (ph_val (pd_int pe_int)))) (nomark _)) (pssd_one (psd_put (pv 0) (ph_val (pd_int pe_int)) (pd_var (pv 2)))) pssd_nil))))) pssd_nil)
  (pssd_cons (psd_if (pdt_cmp op_gt d_gt (ph_val (pd_ix ix_seq d_ix (ph_name (pv 0)) (ph_val (pd_int pe_int)) (fun _ _ => rfl))) (ph_val (pd_int pe_int)) (nomark _)) (pssd_cons (psd_set (i := 3) nd rfl (.inl rfl) (pd_op op_mod d_mod (ph_val (pd_callT call_int1 d_int (by rfl) B.int (by decide +kernel) (pda_cons (ph_val (pd_ix ix_seq d_ix (ph_name (pv 0)) (ph_val (pd_int pe_int)) (fun _ _ => rfl))) pda_nil))) (ph_name (pv 1))))
  (pssd_cons (psd_put (pv 0) (ph_val (pd_int pe_int)) (pd_op op_fdivW d_div (ph_val (pd_ix ix_seq d_ix (ph_name (pv 0)) (ph_val (pd_int pe_int)) (fun _ _ => rfl))) (ph_name (pv 1))))
  (pssd_one (psd_ret (pd_var (pv 3)))))) pssd_nil)
  (pssd_cons (psd_put (pv 0) (ph_val (pd_int pe_int)) (pd_op r_add d_add (ph_val (pd_ix ix_seq d_ix (ph_name (pv 0)) (ph_val (pd_int pe_int)) (fun _ _ => rfl))) (ph_val (pd_int pe_int))))
  (pssd_cons (psd_set (i := 4) nd rfl (.inl rfl) (pd_op op_mod d_mod (ph_val (pd_callT call_int1 d_int (by rfl) B.int (by decide +kernel) (pda_cons (ph_val (pd_op r_mul d_mul (ph_val (pd_callT call_int1 d_int (by rfl) B.int (by decide +kernel) (pda_cons (ph_val (pd_op r_add d_add (ph_val (pd_ix ix_seq d_ix (ph_name (pv 0)) (ph_val (pd_int pe_int)) (fun _ _ => rfl))) (ph_val (pd_op r_mul d_mul (ph_val (pd_int pe_int)) (ph_val (pd_ix ix_seq d_ix (ph_name (pv 0)) (ph_val (pd_int pe_int)) (fun _ _ => rfl))))))) pda_nil))) (ph_val (pd_int pe_int)))) pda_nil))) (ph_val (pd_int pe_int))))
  (pssd_cons (psd_set (i := 4) nd rfl (.inl rfl) (pd_op op_mod d_mod (ph_val (pd_callT call_int1 d_int (by rfl) B.int (by decide +kernel) (pda_cons (ph_val (pd_op r_mul d_mul (ph_name (pv 4)) (ph_val (pd_op r_add d_add (ph_val (pd_op op_fdivW d_div (ph_name (pv 4)) (ph_val (pd_int pe_int)))) (ph_val (pd_int pe_int)))))) pda_nil))) (ph_val (pd_int pe_int))))
  (pssd_cons (psd_set (i := 4) nd rfl (.inl rfl) (pd_op op_mod d_mod (ph_val (pd_callT call_int1 d_int (by rfl) B.int (by decide +kernel) (pda_cons (ph_val (pd_op r_mul d_mul (ph_name (pv 4)) (ph_val (pd_op r_add d_add (ph_val (pd_op op_fdivW d_div (ph_name (pv 4)) (ph_val (pd_int pe_int)))) (ph_val (pd_int pe_int)))))) pda_nil))) (ph_val (pd_int pe_int))))
  (pssd_one (psd_ret (pd_op op_mod d_mod (ph_val (pd_callT call_int1 d_int (by rfl) B.int (by decide +kernel) (pda_cons (ph_val (pd_op op_fdivW d_div (ph_name (pv 4)) (ph_val (pd_int pe_int)))) pda_nil))) (ph_name (pv 1)))))))))))
theorem gal__law_draw {P : Program} {ww : World} {K : PySem.W.Frag} {mg : Str → Option Value} {base : Heap} {f : Addr} {fd : FuncData} (F : L2.Fun K "_law_draw" "_law_draw" st__law_draw f fd) (hm : mg "_law_draw" = some (.ref f)) (b : Binds K fd ["hand", "many"] []) (B : Bl mg) : Gal P ww K mg base 1 "_law_draw" (spR 2 K F__law_draw) :=
  galR F hm b sc__law_draw (body__law_draw B)
/-! ### _law_any -/
abbrev st__law_any : Stmt := topS 29
abbrev N__law_any : List Str := ["hand", "things"]
theorem sc__law_any : FnScope N__law_any ["hand", "things"] (defScope st__law_any) := ⟨rfl, rfl, rfl, by decide +kernel, rfl, by decide +kernel, by decide +kernel⟩
def s__law_any : SX := (sRet (eOp gIx (hName 1) (hVal (eRef F__law_draw 0 (mP (eCall (g1 dLen) (aCons (hName 1) aNil)) mNil)))))
def F__law_any : Ct → List D → Option (D × Ct) := runR 2 s__law_any
theorem body__law_any {P : Program} {ww : World} {K : PySem.W.Frag} {mg : Str → Option Value} {base : Heap} {f : Addr} (B : Bl mg) (G__law_draw : Gal P ww K mg base 1 "_law_draw" (spR 2 K F__law_draw)) : Body P ww K mg base N__law_any 1 "_law_any" st__law_any f s__law_any := by
  intro S cdv A outer s H E hr hG
  have nd : N__law_any.Nodup := sc__law_any.nd
  exact (pssd_one (psd_ret (pd_ix ix_seq d_ix (ph_name (pv 1)) (ph_val (pd_ref G__law_draw hG hr (by rfl) (pv 0) (pdm_p (pd_callB c_len d_len (by rfl) B.len (by decide +kernel) (pda_cons (ph_name (pv 1)) pda_nil)) pdm_nil) (mlen_p mlen_nil))) (fun _ _ => rfl))))
theorem gal__law_any {P : Program} {ww : World} {K : PySem.W.Frag} {mg : Str → Option Value} {base : Heap} {f : Addr} {fd : FuncData} (F : L2.Fun K "_law_any" "_law_any" st__law_any f fd) (hm : mg "_law_any" = some (.ref f)) (b : Binds K fd ["hand", "things"] []) (B : Bl mg) (G__law_draw : Gal P ww K mg base 1 "_law_draw" (spR 2 K F__law_draw)) : Gal P ww K mg base 2 "_law_any" (spR 2 K F__law_any) :=
  galR F hm b sc__law_any (body__law_any B G__law_draw)
/-! ### _law_like -/
abbrev st__law_like : Stmt := topS 30
abbrev N__law_like : List Str := ["told", "due"]
theorem sc__law_like : FnScope N__law_like ["told", "due"] (defScope st__law_like) := ⟨rfl, rfl, rfl, by decide +kernel, rfl, by decide +kernel, by decide +kernel⟩
def s__law_like : SX := (sRet (eOp gEq (hVal (eCall gRepr (aCons (hName 0) aNil))) (hVal (eCall gRepr (aCons (hName 1) aNil)))))
def F__law_like : List D → Option D := runV 2 s__law_like
theorem body__law_like {P : Program} {ww : World} {K : PySem.W.Frag} {mg : Str → Option Value} {base : Heap} {f : Addr} (B : Bl mg) : Body P ww K mg base N__law_like 0 "_law_like" st__law_like f s__law_like := by
  intro S cdv A outer s H E hr hG
  have nd : N__law_like.Nodup := sc__law_like.nd
  exact (pssd_one (psd_ret (pd_cmp (r_eq hr.units) d_eq (ph_val (pd_callB (call_repr hG hr.units) d_repr (by rfl) B.repr (by decide +kernel) (pda_cons (ph_name (pv 0)) pda_nil))) (ph_val (pd_callB (call_repr hG hr.units) d_repr (by rfl) B.repr (by decide +kernel) (pda_cons (ph_name (pv 1)) pda_nil))) (nomark _))))
theorem gal__law_like {P : Program} {ww : World} {K : PySem.W.Frag} {mg : Str → Option Value} {base : Heap} {f : Addr} {fd : FuncData} (F : L2.Fun K "_law_like" "_law_like" st__law_like f fd) (hm : mg "_law_like" = some (.ref f)) (b : Binds K fd ["told", "due"] []) (B : Bl mg) : Gal P ww K mg base 1 "_law_like" (spV 2 K F__law_like) :=
  galV F hm b sc__law_like (body__law_like B)
/-! ### _law_rods -/
abbrev st__law_rods : Stmt := topS 31
abbrev N__law_rods : List Str := ["hand", "lengths", "top", "turn", "length"]
theorem sc__law_rods : FnScope N__law_rods ["hand"] (defScope st__law_rods) := ⟨rfl, rfl, rfl, by decide +kernel, rfl, by decide +kernel, by decide +kernel⟩
def s__law_rods : SX := (sSeq (sPar [1, 2] (mO (oLst aNil) (mP (eRef F__law_any 0 (mP (eOwn (oLst (aCons (hVal (eC (.int 9))) (aCons (hVal (eC (.int 20))) (aCons (hVal (eC (.int 60))) aNil))))) mNil)) mNil)))
  (sSeq (sFor (iRange rg1 (aCons (hVal (eC (.int 40))) aNil)) (txN 3) (sSeq (sSet 4 (eOp gAdd (hVal (eC (.int 1))) (hVal (eRef F__law_draw 0 (mP (eVar 2) mNil)))))
  (sIf (bAnd (bE (eOp gNotInL (hName 4) (hName 1))) (bE (eOp gLt (hVal (eCall (g1 dLen) (aCons (hName 1) aNil))) (hVal (eC (.int 8)))))) (sApp 1 (eVar 4)) sNext)))
  (sRet (eOwn (oLc (iSeq (eOwn (oCall (c1 cSortI) (aCons (hName 1) aNil)))) (txN 4) bYes (eTup (aCons (hVal (eVar 4)) (aCons (hVal (eOp gAdd (hVal (eC (.int 1))) (hVal (eRef F__law_draw 0 (mP (eRef F__law_any 0 (mP (eOwn (oLst (aCons (hVal (eC (.int 2))) (aCons (hVal (eC (.int 9))) aNil)))) mNil)) mNil))))) aNil))) [4])))))
def F__law_rods : Ct → List D → Option (D × Ct) := runR 5 s__law_rods
theorem body__law_rods {P : Program} {ww : World} {K : PySem.W.Frag} {mg : Str → Option Value} {base : Heap} {f : Addr} (B : Bl mg) (G__law_any : Gal P ww K mg base 2 "_law_any" (spR 2 K F__law_any)) (G__law_draw : Gal P ww K mg base 1 "_law_draw" (spR 2 K F__law_draw)) : Body P ww K mg base N__law_rods 2 "_law_rods" st__law_rods f s__law_rods := by
  intro S cdv A outer s H E hr hG
  have nd : N__law_rods.Nodup := sc__law_rods.nd
  have hU : (A.deeper (envOfC "_law_rods" (defScope st__law_rods) s.heap.objs.size f cdv)).units + 65 < cLine := by have := hr.un; omega
  have G__law_draw := G__law_draw.mono (k' := 2) (by decide)
  exact (pssd_cons (psd_par (i := 1) (j := 2) rfl nd rfl rfl (by decide) rfl rfl (pdm_o (po_lst pda_nil) (fun S => (pdm_p (pd_ref G__law_any hG hr (by rfl) (pv 0) (pdm_p (pd_own (po_lst (pda_cons (ph_val (pd_int pe_int)) (pda_cons (ph_val (pd_int pe_int)) (pda_cons (ph_val (pd_int pe_int)) pda_nil))))) pdm_nil) (mlen_p mlen_nil)) pdm_nil))) (by rfl))
  (pssd_cons (psd_for PassesOwn.never rfl (pdi_range1 (by rfl) B.range (pda_cons (ph_val (pd_int pe_int)) pda_nil)) (pgd_name (i := 3) nd rfl (.inl rfl)) (pssd_cons (psd_set (i := 4) nd rfl (.inl rfl) (pd_op r_add d_add (ph_val (pd_int pe_int)) (ph_val (pd_ref G__law_draw hG hr (by rfl) (pv 0) (pdm_p (pd_var (pv 2)) pdm_nil) (mlen_p mlen_nil)))))
  (pssd_one (psd_if (pdt_bool (pdw_and (pdt_cmp (op_notInD hU) d_notInL (ph_name (pv 4)) (ph_name (pv 1)) (by rfl)) (pdw_and1 (pdt_cmp op_lt d_lt (ph_val (pd_callB c_len d_len (by rfl) B.len (by decide +kernel) (pda_cons (ph_name (pv 1)) pda_nil))) (ph_val (pd_int pe_int)) (nomark _))))) (pssd_one (psd_app (pv 1) (pd_var (pv 4)))) pssd_nil))))
  (pssd_one (psd_ret (pd_own (pod_lc rfl nd (pdi_seq (pd_own (po_callB cr_sortedI o_sortI (by rfl) B.sorted (by decide +kernel) (pda_cons (ph_name (pv 1)) pda_nil)))) (own := [("length", 4)]) (by exact blkOk_by (N := N__law_rods) (sc := defScope st__law_rods) (own := [("length", 4)]) (by decide +kernel)) ⟨fun S s H C cl fp => (pgd_name (i := 4) nd rfl (.inl rfl)), fun S s H C cl fp => ptd_nil, fun S s H C cl fp => (pd_tup (pda_cons (ph_val (pd_var (pv 4))) (pda_cons (ph_val (pd_op r_add d_add (ph_val (pd_int pe_int)) (ph_val (pd_ref G__law_draw hG hr (by rfl) (pv 0) (pdm_p (pd_ref G__law_any hG hr (by rfl) (pv 0) (pdm_p (pd_own (po_lst (pda_cons (ph_val (pd_int pe_int)) (pda_cons (ph_val (pd_int pe_int)) pda_nil)))) pdm_nil) (mlen_p mlen_nil)) pdm_nil) (mlen_p mlen_nil))))) pda_nil)))⟩ (by decide) (tg_name (by decide))))))))
theorem gal__law_rods {P : Program} {ww : World} {K : PySem.W.Frag} {mg : Str → Option Value} {base : Heap} {f : Addr} {fd : FuncData} (F : L2.Fun K "_law_rods" "_law_rods" st__law_rods f fd) (hm : mg "_law_rods" = some (.ref f)) (b : Binds K fd ["hand"] []) (B : Bl mg) (G__law_any : Gal P ww K mg base 2 "_law_any" (spR 2 K F__law_any)) (G__law_draw : Gal P ww K mg base 1 "_law_draw" (spR 2 K F__law_draw)) : Gal P ww K mg base 3 "_law_rods" (spR 1 K F__law_rods) :=
  galR F hm b sc__law_rods (body__law_rods B G__law_any G__law_draw)
/-! ### _law_counts -/
abbrev st__law_counts : Stmt := topS 32
abbrev N__law_counts : List Str := ["rods", "most", "rows", "many", "length", "colours"]
theorem sc__law_counts : FnScope N__law_counts ["rods", "most"] (defScope st__law_counts) := ⟨rfl, rfl, rfl, by decide +kernel, rfl, by decide +kernel, by decide +kernel⟩
def s__law_counts : SX := (sSeq (sSetO 2 (oLst (aCons (hVal (eC (.int 1))) aNil)))
  (sSeq (sFor (iRange rg2 (aCons (hVal (eC (.int 1))) (aCons (hVal (eOp gAdd (hName 1) (hVal (eC (.int 1))))) aNil))) (txN 3) (sApp 2 (eCall (g1 dSum) (aCons (hVal (eOwn (oLc (iSeq (eVar 0)) (txT 2 (txsCons (txN 4) (txsCons (txN 5) txsNil))) (bE (eOp gLe (hName 4) (hName 3))) (eOp gMul (hName 5) (hVal (eOp gIx (hName 2) (hVal (eOp gSub (hName 3) (hName 4)))))) [4, 5]))) aNil))))
  (sRet (eVar 2))))
def F__law_counts : List D → Option D := runV 6 s__law_counts
theorem body__law_counts {P : Program} {ww : World} {K : PySem.W.Frag} {mg : Str → Option Value} {base : Heap} {f : Addr} (B : Bl mg) : Body P ww K mg base N__law_counts 0 "_law_counts" st__law_counts f s__law_counts := by
  intro S cdv A outer s H E hr hG
  have nd : N__law_counts.Nodup := sc__law_counts.nd
  exact (pssd_cons (psd_setO (i := 2) nd rfl (.inr rfl) (po_lst (pda_cons (ph_val (pd_int pe_int)) pda_nil)))
  (pssd_cons (psd_for PassesOwn.never rfl (pdi_range2 (by rfl) B.range (pda_cons (ph_val (pd_int pe_int)) (pda_cons (ph_val (pd_op r_add d_add (ph_name (pv 1)) (ph_val (pd_int pe_int)))) pda_nil))) (pgd_name (i := 3) nd rfl (.inr rfl)) (pssd_one (psd_app (pv 2) (pd_callB (cr_sum rfl) d_sum (by rfl) B.sum (by decide +kernel) (pda_cons (ph_val (pd_own (pod_lc rfl nd (pdi_seq (pd_var (pv 0))) (own := [("length", 4), ("colours", 5)]) (by exact blkOk_by (N := N__law_counts) (sc := defScope st__law_counts) (own := [("length", 4), ("colours", 5)]) (by decide +kernel)) ⟨fun S s H C cl fp => (pgd_tup rfl (pgsd_cons (pgd_name (i := 4) nd rfl (.inl rfl)) (pgsd_cons (pgd_name (i := 5) nd rfl (.inl rfl)) pgsd_nil))), fun S s H C cl fp => (ptd_one (pdt_cmp op_le d_le (ph_name (pv 4)) (ph_name (pv 3)) (nomark _))), fun S s H C cl fp => (pd_op r_mul d_mul (ph_name (pv 5)) (ph_val (pd_ix ix_seq d_ix (ph_name (pv 2)) (ph_val (pd_op op_sub d_sub (ph_name (pv 3)) (ph_name (pv 4)))) (fun _ _ => rfl))))⟩ (by decide) (tg_tup (tgs_cons (tg_name (by decide)) (tgs_cons (tg_name (by decide)) tgs_nil)))))) pda_nil)))))
  (pssd_one (psd_ret (pd_var (pv 2))))))
theorem gal__law_counts {P : Program} {ww : World} {K : PySem.W.Frag} {mg : Str → Option Value} {base : Heap} {f : Addr} {fd : FuncData} (F : L2.Fun K "_law_counts" "_law_counts" st__law_counts f fd) (hm : mg "_law_counts" = some (.ref f)) (b : Binds K fd ["rods", "most"] []) (B : Bl mg) : Gal P ww K mg base 1 "_law_counts" (spV 2 K F__law_counts) :=
  galV F hm b sc__law_counts (body__law_counts B)
/-! ### _law_rank -/
abbrev st__law_rank : Stmt := topS 33
abbrev N__law_rank : List Str := ["rods", "rows", "row", "left", "found", "length", "colour", "other", "colours", "ahead"]
theorem sc__law_rank : FnScope N__law_rank ["rods", "rows", "row"] (defScope st__law_rank) := ⟨rfl, rfl, rfl, by decide +kernel, rfl, by decide +kernel, by decide +kernel⟩
def s__law_rank : SX := (sSeq (sPar [3, 4] (mP (eCall (g1 dSum) (aCons (hVal (eOwn (oLc (iSeq (eVar 2)) (txT 2 (txsCons (txN 5) (txsCons (txN 6) txsNil))) bYes (eVar 5) [5, 6]))) aNil)) (mP (eC (.int 0)) mNil)))
  (sSeq (sFor (iSeq (eVar 2)) (txT 2 (txsCons (txN 5) (txsCons (txN 6) txsNil))) (sSeq (sFor (iSeq (eVar 0)) (txT 2 (txsCons (txN 7) (txsCons (txN 8) txsNil))) (sIf (bE (eOp gLe (hName 7) (hName 3))) (sSeq (sSet 9 (eIf (bE (eOp gLt (hName 7) (hName 5))) (eVar 8) (eIf (bE (eOp gEq (hName 7) (hName 5))) (eVar 6) (eC (.int 0)))))
  (sSet 4 (eOp gAdd (hName 4) (hVal (eOp gMul (hName 9) (hVal (eOp gIx (hName 1) (hVal (eOp gSub (hName 3) (hName 7)))))))))) sNext))
  (sSet 3 (eOp gSub (hName 3) (hName 5)))))
  (sRet (eVar 4))))
def F__law_rank : List D → Option D := runV 10 s__law_rank
theorem body__law_rank {P : Program} {ww : World} {K : PySem.W.Frag} {mg : Str → Option Value} {base : Heap} {f : Addr} (B : Bl mg) : Body P ww K mg base N__law_rank 0 "_law_rank" st__law_rank f s__law_rank := by
  intro S cdv A outer s H E hr hG
  have nd : N__law_rank.Nodup := sc__law_rank.nd
  exact (pssd_cons (psd_par (i := 3) (j := 4) rfl nd rfl rfl (by decide) rfl rfl (pdm_p (pd_callB (cr_sum rfl) d_sum (by rfl) B.sum (by decide +kernel) (pda_cons (ph_val (pd_own (pod_lc rfl nd (pdi_seq (pd_var (pv 2))) (own := [("length", 5), ("colour", 6)]) (by exact blkOk_by (N := N__law_rank) (sc := defScope st__law_rank) (own := [("length", 5), ("colour", 6)]) (by decide +kernel)) ⟨fun S s H C cl fp => (pgd_tup rfl (pgsd_cons (pgd_name (i := 5) nd rfl (.inl rfl)) (pgsd_cons (pgd_name (i := 6) nd rfl (.inl rfl)) pgsd_nil))), fun S s H C cl fp => ptd_nil, fun S s H C cl fp => (pd_var (pv 5))⟩ (by decide) (tg_tup (tgs_cons (tg_name (by decide)) (tgs_cons (tg_name (by decide)) tgs_nil)))))) pda_nil)) (pdm_p (pd_int pe_int) pdm_nil)) (by rfl))
  (pssd_cons (psd_for PassesOwn.never rfl (pdi_seq (pd_var (pv 2))) (pgd_tup rfl (pgsd_cons (pgd_name (i := 5) nd rfl (.inl rfl)) (pgsd_cons (pgd_name (i := 6) nd rfl (.inl rfl)) pgsd_nil))) (pssd_cons (psd_for PassesOwn.never rfl (pdi_seq (pd_var (pv 0))) (pgd_tup rfl (pgsd_cons (pgd_name (i := 7) nd rfl (.inl rfl)) (pgsd_cons (pgd_name (i := 8) nd rfl (.inl rfl)) pgsd_nil))) (pssd_one (psd_if (pdt_cmp op_le d_le (ph_name (pv 7)) (ph_name (pv 3)) (nomark _)) (pssd_cons (psd_set (i := 9) nd rfl (.inl rfl) (pd_if (pdt_cmp op_lt d_lt (ph_name (pv 7)) (ph_name (pv 5)) (nomark _)) (pd_var (pv 8)) (pd_if (pdt_cmp (r_eq hr.units) d_eq (ph_name (pv 7)) (ph_name (pv 5)) (nomark _)) (pd_var (pv 6)) (pd_int pe_int))))
  (pssd_one (psd_set (i := 4) nd rfl (.inl rfl) (pd_op r_add d_add (ph_name (pv 4)) (ph_val (pd_op r_mul d_mul (ph_name (pv 9)) (ph_val (pd_ix ix_seq d_ix (ph_name (pv 1)) (ph_val (pd_op op_sub d_sub (ph_name (pv 3)) (ph_name (pv 7)))) (fun _ _ => rfl))))))))) pssd_nil)))
  (pssd_one (psd_set (i := 3) nd rfl (.inl rfl) (pd_op op_sub d_sub (ph_name (pv 3)) (ph_name (pv 5)))))))
  (pssd_one (psd_ret (pd_var (pv 4))))))
theorem gal__law_rank {P : Program} {ww : World} {K : PySem.W.Frag} {mg : Str → Option Value} {base : Heap} {f : Addr} {fd : FuncData} (F : L2.Fun K "_law_rank" "_law_rank" st__law_rank f fd) (hm : mg "_law_rank" = some (.ref f)) (b : Binds K fd ["rods", "rows", "row"] []) (B : Bl mg) : Gal P ww K mg base 1 "_law_rank" (spV 3 K F__law_rank) :=
  galV F hm b sc__law_rank (body__law_rank B)
/-! ### _law_row -/
abbrev st__law_row : Stmt := topS 34
abbrev N__law_row : List Str := ["hand", "rods", "rows", "length", "left", "found", "some", "rod"]
theorem sc__law_row : FnScope N__law_row ["hand", "rods", "rows", "length"] (defScope st__law_row) := ⟨rfl, rfl, rfl, by decide +kernel, rfl, by decide +kernel, by decide +kernel⟩
def s__law_row : SX := (sSeq (sPar [4, 5] (mP (eVar 3) (mO (oLst aNil) mNil)))
  (sSeq (loopW (bE (eOp gGt (hName 4) (hVal (eC (.int 0))))) (sSeq (sSetO 6 (oLc (iSeq (eVar 1)) (txN 7) (bAnd (bE (eOp gLe (hVal (eOp gIx (hName 7) (hVal (eC (.int 0))))) (hName 4))) (bE (eOp gGt (hVal (eOp gIx (hName 2) (hVal (eOp gSub (hName 4) (hVal (eOp gIx (hName 7) (hVal (eC (.int 0))))))))) (hVal (eC (.int 0)))))) (eVar 7) [7]))
  (sSeq (sSet 7 (eRef F__law_any 0 (mP (eVar 6) mNil)))
  (sSeq (sApp 5 (eTup (aCons (hVal (eOp gIx (hName 7) (hVal (eC (.int 0))))) (aCons (hVal (eRef F__law_draw 0 (mP (eOp gIx (hName 7) (hVal (eC (.int 1)))) mNil))) aNil))))
  (sSet 4 (eOp gSub (hName 4) (hVal (eOp gIx (hName 7) (hVal (eC (.int 0)))))))))) 300)
  (sRet (eCall (g1 dTuple) (aCons (hName 5) aNil)))))
def F__law_row : Ct → List D → Option (D × Ct) := runR 8 s__law_row
theorem body__law_row {P : Program} {ww : World} {K : PySem.W.Frag} {mg : Str → Option Value} {base : Heap} {f : Addr} (B : Bl mg) (G__law_any : Gal P ww K mg base 2 "_law_any" (spR 2 K F__law_any)) (G__law_draw : Gal P ww K mg base 1 "_law_draw" (spR 2 K F__law_draw)) : Body P ww K mg base N__law_row 2 "_law_row" st__law_row f s__law_row := by
  intro S cdv A outer s H E hr hG
  have nd : N__law_row.Nodup := sc__law_row.nd
  have G__law_draw := G__law_draw.mono (k' := 2) (by decide)
  exact (pssd_cons (psd_parT (i := 4) (j := 5) rfl nd rfl rfl (.inr rfl) (.inl rfl) rfl rfl (pdm_p (pd_var (pv 3)) (pdm_o (po_lst pda_nil) (fun S => pdm_nil))))
  (pssd_cons (psd_while 300 PassesOwn.never (pdt_cmp op_gt d_gt (ph_name (pv 4)) (ph_val (pd_int pe_int)) (nomark _)) (pssd_cons (psd_setLc (i := 6) rfl nd rfl rfl (sw_true rfl rfl rfl rfl) (pdi_seq (pd_var (pv 1))) (own := [("rod", 7)]) (by exact blkOk_by (N := N__law_row) (sc := defScope st__law_row) (own := [("rod", 7)]) (by decide +kernel)) ⟨fun S s H C cl fp => (pgd_name (i := 7) nd rfl (.inl rfl)), fun S s H C cl fp => (ptd_one (pdt_bool (pdw_and (pdt_cmp op_le d_le (ph_val (pd_ix ix_seq d_ix (ph_name (pv 7)) (ph_val (pd_int pe_int)) (fun _ _ => rfl))) (ph_name (pv 4)) (nomark _)) (pdw_and1 (pdt_cmp op_gt d_gt (ph_val (pd_ix ix_seq d_ix (ph_name (pv 2)) (ph_val (pd_op op_sub d_sub (ph_name (pv 4)) (ph_val (pd_ix ix_seq d_ix (ph_name (pv 7)) (ph_val (pd_int pe_int)) (fun _ _ => rfl))))) (fun _ _ => rfl))) (ph_val (pd_int pe_int)) (nomark _)))))), fun S s H C cl fp => (pd_var (pv 7))⟩ (by decide) (tg_name (by decide)))
  (pssd_cons (psd_set (i := 7) nd rfl (.inl rfl) (pd_ref G__law_any hG hr (by rfl) (pv 0) (pdm_p (pd_var (pv 6)) pdm_nil) (mlen_p mlen_nil)))
  (pssd_cons (psd_app (pv 5) (pd_tup (pda_cons (ph_val (pd_ix ix_seq d_ix (ph_name (pv 7)) (ph_val (pd_int pe_int)) (fun _ _ => rfl))) (pda_cons (ph_val (pd_ref G__law_draw hG hr (by rfl) (pv 0) (pdm_p (pd_ix ix_seq d_ix (ph_name (pv 7)) (ph_val (pd_int pe_int)) (fun _ _ => rfl)) pdm_nil) (mlen_p mlen_nil))) pda_nil))))
  (pssd_one (psd_set (i := 4) nd rfl (.inr rfl) (pd_op op_sub d_sub (ph_name (pv 4)) (ph_val (pd_ix ix_seq d_ix (ph_name (pv 7)) (ph_val (pd_int pe_int)) (fun _ _ => rfl))))))))))
  (pssd_one (psd_ret (pd_callT call_tuple_of d_tuple (by rfl) B.tuple (by decide +kernel) (pda_cons (ph_name (pv 5)) pda_nil))))))
theorem gal__law_row {P : Program} {ww : World} {K : PySem.W.Frag} {mg : Str → Option Value} {base : Heap} {f : Addr} {fd : FuncData} (F : L2.Fun K "_law_row" "_law_row" st__law_row f fd) (hm : mg "_law_row" = some (.ref f)) (b : Binds K fd ["hand", "rods", "rows", "length"] []) (B : Bl mg) (G__law_any : Gal P ww K mg base 2 "_law_any" (spR 2 K F__law_any)) (G__law_draw : Gal P ww K mg base 1 "_law_draw" (spR 2 K F__law_draw)) : Gal P ww K mg base 3 "_law_row" (spR 4 K F__law_row) :=
  galR F hm b sc__law_row (body__law_row B G__law_any G__law_draw)
/-! ### _law_led -/
abbrev st__law_led : Stmt := topS 36
abbrev N__law_led : List Str := ["one", "other", "rule", "number", "high", "found", "at", "item", "to", "more", "step", "items"]
theorem sc__law_led : FnScope N__law_led ["one", "other", "rule", "number"] (defScope st__law_led) := ⟨rfl, rfl, rfl, by decide +kernel, rfl, by decide +kernel, by decide +kernel⟩
def s__law_led : SX := (sSeq (sPar [4, 5] (mP (eCall (g1 dLen) (aCons (hName 2) aNil)) (mO (oOp cRep (hVal (eOwn (oLst (aCons (hVal (eC (.int 0))) aNil)))) (hVal (eOp gSub (hVal (eOp gAdd (hVal (eCall (g1 dLen) (aCons (hName 0) aNil))) (hVal (eCall (g1 dLen) (aCons (hName 1) aNil))))) (hVal (eC (.int 1)))))) mNil)))
  (sSeq (sFor (iEnumD (eVar 0)) (txT 2 (txsCons (txN 6) (txsCons (txN 7) txsNil))) (sFor (iEnumD (eVar 1)) (txT 2 (txsCons (txN 8) (txsCons (txN 9) txsNil))) (sPut 5 (hVal (eOp gAdd (hName 6) (hName 8))) (eOp gMod (hVal (eCall (g1 dInt) (aCons (hVal (eOp gAdd (hVal (eOp gIx (hName 5) (hVal (eOp gAdd (hName 6) (hName 8))))) (hVal (eOp gMul (hName 7) (hName 9))))) aNil))) (hName 3)))))
  (sSeq (sFor (iRange rg3 (aCons (hVal (eOp gSub (hVal (eCall (g1 dLen) (aCons (hName 5) aNil))) (hVal (eC (.int 1))))) (aCons (hVal (eOp gSub (hName 4) (hVal (eC (.int 1))))) (aCons (hVal (eOp gSub (hVal (eC (.int 0))) (hVal (eC (.int 1))))) aNil)))) (txN 6) (sFor (iEnumD (eVar 2)) (txT 2 (txsCons (txN 10) (txsCons (txN 11) txsNil))) (sPut 5 (hVal (eOp gSub (hVal (eOp gSub (hName 6) (hName 10))) (hVal (eC (.int 1))))) (eOp gMod (hVal (eCall (g1 dInt) (aCons (hVal (eOp gAdd (hVal (eOp gIx (hName 5) (hVal (eOp gSub (hVal (eOp gSub (hName 6) (hName 10))) (hVal (eC (.int 1))))))) (hVal (eOp gMul (hVal (eOp gIx (hName 5) (hName 6))) (hName 11))))) aNil))) (hName 3)))))
  (sRet (eSl gSl (hName 5) pNo (pSo (eVar 4)))))))
def F__law_led : List D → Option D := runV 12 s__law_led
theorem body__law_led {P : Program} {ww : World} {K : PySem.W.Frag} {mg : Str → Option Value} {base : Heap} {f : Addr} (B : Bl mg) : Body P ww K mg base N__law_led 0 "_law_led" st__law_led f s__law_led := by
  intro S cdv A outer s H E hr hG
  have nd : N__law_led.Nodup := sc__law_led.nd
  exact (pssd_cons (psd_par (i := 4) (j := 5) rfl nd rfl rfl (by decide) rfl rfl (pdm_p (pd_callB c_len d_len (by rfl) B.len (by decide +kernel) (pda_cons (ph_name (pv 2)) pda_nil)) (pdm_o (po_op op_rep o_rep (ph_val (pd_own (po_lst (pda_cons (ph_val (pd_int pe_int)) pda_nil)))) (ph_val (pd_op op_sub d_sub (ph_val (pd_op r_add d_add (ph_val (pd_callB c_len d_len (by rfl) B.len (by decide +kernel) (pda_cons (ph_name (pv 0)) pda_nil))) (ph_val (pd_callB c_len d_len (by rfl) B.len (by decide +kernel) (pda_cons (ph_name (pv 1)) pda_nil))))) (ph_val (pd_int pe_int))))) (fun S => pdm_nil))) (by rfl))
  (pssd_cons (psd_for PassesOwn.never rfl (pdi_enum (by rfl) B.enumerate (pd_var (pv 0))) (pgd_tup rfl (pgsd_cons (pgd_name (i := 6) nd rfl (.inl rfl)) (pgsd_cons (pgd_name (i := 7) nd rfl (.inl rfl)) pgsd_nil))) (pssd_one (psd_for PassesOwn.never rfl (pdi_enum (by rfl) B.enumerate (pd_var (pv 1))) (pgd_tup rfl (pgsd_cons (pgd_name (i := 8) nd rfl (.inl rfl)) (pgsd_cons (pgd_name (i := 9) nd rfl (.inl rfl)) pgsd_nil))) (pssd_one (psd_put (pv 5) (ph_val (pd_op r_add d_add (ph_name (pv 6)) (ph_name (pv 8)))) (pd_op op_mod d_mod (ph_val (pd_callT call_int1 d_int (by rfl) B.int (by decide +kernel) (pda_cons (ph_val (pd_op r_add d_add (ph_val (pd_ix ix_seq d_ix (ph_name (pv 5)) (ph_val (pd_op r_add d_add (ph_name (pv 6)) (ph_name (pv 8)))) (fun _ _ => rfl))) (ph_val (pd_op r_mul d_mul (ph_name (pv 7)) (ph_name (pv 9)))))) pda_nil))) (ph_name (pv 3))))))))
  (pssd_cons (psd_for PassesOwn.never rfl (pdi_range3 (by rfl) B.range (pda_cons (ph_val (pd_op op_sub d_sub (ph_val (pd_callB c_len d_len (by rfl) B.len (by decide +kernel) (pda_cons (ph_name (pv 5)) pda_nil))) (ph_val (pd_int pe_int)))) (pda_cons (ph_val (pd_op op_sub d_sub (ph_name (pv 4)) (ph_val (pd_int pe_int)))) (pda_cons (ph_val (pd_op op_sub d_sub (ph_val (pd_int pe_int)) (ph_val (pd_int pe_int)))) pda_nil)))) (pgd_name (i := 6) nd rfl (.inl rfl)) (pssd_one (psd_for PassesOwn.never rfl (pdi_enum (by rfl) B.enumerate (pd_var (pv 2))) (pgd_tup rfl (pgsd_cons (pgd_name (i := 10) nd rfl (.inl rfl)) (pgsd_cons (pgd_name (i := 11) nd rfl (.inl rfl)) pgsd_nil))) (pssd_one (psd_put (pv 5) (ph_val (pd_op op_sub d_sub (ph_val (pd_op op_sub d_sub (ph_name (pv 6)) (ph_name (pv 10)))) (ph_val (pd_int pe_int)))) (pd_op op_mod d_mod (ph_val (pd_callT call_int1 d_int (by rfl) B.int (by decide +kernel) (pda_cons (ph_val (pd_op r_add d_add (ph_val (pd_ix ix_seq d_ix (ph_name (pv 5)) (ph_val (pd_op op_sub d_sub (ph_val (pd_op op_sub d_sub (ph_name (pv 6)) (ph_name (pv 10)))) (ph_val (pd_int pe_int)))) (fun _ _ => rfl))) (ph_val (pd_op r_mul d_mul (ph_val (pd_ix ix_seq d_ix (ph_name (pv 5)) (ph_name (pv 6)) (fun _ _ => rfl))) (ph_name (pv 11)))))) pda_nil))) (ph_name (pv 3))))))))
  (pssd_one (psd_ret (pd_sl r_sl d_sl (ph_name (pv 5)) pdp_none (pdp_some (pd_var (pv 4)))))))))
theorem gal__law_led {P : Program} {ww : World} {K : PySem.W.Frag} {mg : Str → Option Value} {base : Heap} {f : Addr} {fd : FuncData} (F : L2.Fun K "_law_led" "_law_led" st__law_led f fd) (hm : mg "_law_led" = some (.ref f)) (b : Binds K fd ["one", "other", "rule", "number"] []) (B : Bl mg) : Gal P ww K mg base 1 "_law_led" (spV 4 K F__law_led) :=
  galV F hm b sc__law_led (body__law_led B)
/-! ### _law_great -/
abbrev st__law_great : Stmt := topS 35
abbrev N__law_great : List Str := ["rods", "length", "number", "high", "rod", "rule", "size", "colours", "first", "found", "power", "left", "at", "item"]
theorem sc__law_great : FnScope N__law_great ["rods", "length", "number"] (defScope st__law_great) := ⟨rfl, rfl, rfl, by decide +kernel, rfl, by decide +kernel, by decide +kernel⟩
def s__law_great : SX := (sSeq (sSet 3 (eCall (g1 dMaxL) (aCons (hVal (eOwn (oLc (iSeq (eVar 0)) (txN 4) bYes (eOp gIx (hName 4) (hVal (eC (.int 0)))) [4]))) aNil)))
  (sSeq (sSetO 5 (oOp cRep (hVal (eOwn (oLst (aCons (hVal (eC (.int 0))) aNil)))) (hName 3)))
  (sSeq (sFor (iSeq (eVar 0)) (txT 2 (txsCons (txN 6) (txsCons (txN 7) txsNil))) (sPut 5 (hVal (eOp gSub (hName 6) (hVal (eC (.int 1))))) (eVar 7)))
  (sSeq (sSet 8 (eFn F__law_counts (mP (eVar 0) (mP (eVar 3) mNil))))
  (sSeq (sPar [9, 10, 11] (mO (oLst (aCons (hVal (eC (.int 1))) aNil)) (mO (oLst (aCons (hVal (eC (.int 0))) (aCons (hVal (eC (.int 1))) aNil))) (mP (eVar 1) mNil))))
  (sSeq (loopW (bE (eOp gGt (hName 11) (hVal (eC (.int 0))))) (sSeq (sIf (bE (eOp gEq (hVal (eOp gMod (hVal (eCall (g1 dInt) (aCons (hName 11) aNil))) (hVal (eC (.int 2))))) (hVal (eC (.int 1))))) (sSet 9 (eFn F__law_led (mP (eVar 9) (mP (eVar 10) (mP (eVar 5) (mP (eVar 2) mNil)))))) sNext)
  (sSeq (sSet 10 (eFn F__law_led (mP (eVar 10) (mP (eVar 10) (mP (eVar 5) (mP (eVar 2) mNil))))))
  (sSet 11 (eOp gDiv (hName 11) (hVal (eC (.int 2))))))) 300)
  (sRet (eOp gMod (hVal (eCall (g1 dInt) (aCons (hVal (eCall (g1 dSum) (aCons (hVal (eOwn (oLc (iEnumD (eVar 9)) (txT 2 (txsCons (txN 12) (txsCons (txN 13) txsNil))) bYes (eOp gMul (hName 13) (hVal (eOp gIx (hName 8) (hName 12)))) [12, 13]))) aNil))) aNil))) (hName 2)))))))))
def F__law_great : List D → Option D := runV 14 s__law_great
theorem body__law_great {P : Program} {ww : World} {K : PySem.W.Frag} {mg : Str → Option Value} {base : Heap} {f : Addr} (B : Bl mg) (G__law_counts : Gal P ww K mg base 1 "_law_counts" (spV 2 K F__law_counts)) (G__law_led : Gal P ww K mg base 1 "_law_led" (spV 4 K F__law_led)) : Body P ww K mg base N__law_great 1 "_law_great" st__law_great f s__law_great := by
  intro S cdv A outer s H E hr hG
  have nd : N__law_great.Nodup := sc__law_great.nd
  exact (pssd_cons (psd_set (i := 3) nd rfl (.inl rfl) (pd_callB (cr_max rfl) d_maxL (by rfl) B.max (by decide +kernel) (pda_cons (ph_val (pd_own (pod_lc rfl nd (pdi_seq (pd_var (pv 0))) (own := [("rod", 4)]) (by exact blkOk_by (N := N__law_great) (sc := defScope st__law_great) (own := [("rod", 4)]) (by decide +kernel)) ⟨fun S s H C cl fp => (pgd_name (i := 4) nd rfl (.inl rfl)), fun S s H C cl fp => ptd_nil, fun S s H C cl fp => (pd_ix ix_seq d_ix (ph_name (pv 4)) (ph_val (pd_int pe_int)) (fun _ _ => rfl))⟩ (by decide) (tg_name (by decide))))) pda_nil)))
  (pssd_cons (psd_setO (i := 5) nd rfl (.inl rfl) (po_op op_rep o_rep (ph_val (pd_own (po_lst (pda_cons (ph_val (pd_int pe_int)) pda_nil)))) (ph_name (pv 3))))
  (pssd_cons (psd_for PassesOwn.never rfl (pdi_seq (pd_var (pv 0))) (pgd_tup rfl (pgsd_cons (pgd_name (i := 6) nd rfl (.inl rfl)) (pgsd_cons (pgd_name (i := 7) nd rfl (.inl rfl)) pgsd_nil))) (pssd_one (psd_put (pv 5) (ph_val (pd_op op_sub d_sub (ph_name (pv 6)) (ph_val (pd_int pe_int)))) (pd_var (pv 7)))))
  (pssd_cons (psd_set (i := 8) nd rfl (.inr rfl) (pd_gal G__law_counts hG hr (by rfl) (pdm_p (pd_var (pv 0)) (pdm_p (pd_var (pv 3)) pdm_nil)) (mlen_p (mlen_p mlen_nil))))
  (pssd_cons (psd_par3 (i := 9) (j := 10) (l := 11) rfl nd rfl rfl rfl (by decide) (by decide) (by decide) rfl rfl rfl (pdm_o (po_lst (pda_cons (ph_val (pd_int pe_int)) pda_nil)) (fun S => (pdm_o (po_lst (pda_cons (ph_val (pd_int pe_int)) (pda_cons (ph_val (pd_int pe_int)) pda_nil))) (fun S => (pdm_p (pd_var (pv 1)) pdm_nil))))) (by rfl))
  (pssd_cons (psd_while 300 PassesOwn.never (pdt_cmp op_gt d_gt (ph_name (pv 11)) (ph_val (pd_int pe_int)) (nomark _)) (pssd_cons (psd_if (pdt_cmp (r_eq hr.units) d_eq (ph_val (pd_op op_mod d_mod (ph_val (pd_callT call_int1 d_int (by rfl) B.int (by decide +kernel) (pda_cons (ph_name (pv 11)) pda_nil))) (ph_val (pd_int pe_int)))) (ph_val (pd_int pe_int)) (nomark _)) (pssd_one (psd_set (i := 9) nd rfl (.inl rfl) (pd_gal G__law_led hG hr (by rfl) (pdm_p (pd_var (pv 9)) (pdm_p (pd_var (pv 10)) (pdm_p (pd_var (pv 5)) (pdm_p (pd_var (pv 2)) pdm_nil)))) (mlen_p (mlen_p (mlen_p (mlen_p mlen_nil))))))) pssd_nil)
  (pssd_cons (psd_set (i := 10) nd rfl (.inl rfl) (pd_gal G__law_led hG hr (by rfl) (pdm_p (pd_var (pv 10)) (pdm_p (pd_var (pv 10)) (pdm_p (pd_var (pv 5)) (pdm_p (pd_var (pv 2)) pdm_nil)))) (mlen_p (mlen_p (mlen_p (mlen_p mlen_nil))))))
  (pssd_one (psd_set (i := 11) nd rfl (.inl rfl) (pd_op op_fdivW d_div (ph_name (pv 11)) (ph_val (pd_int pe_int))))))))
  (pssd_one (psd_ret (pd_op op_mod d_mod (ph_val (pd_callT call_int1 d_int (by rfl) B.int (by decide +kernel) (pda_cons (ph_val (pd_callB (cr_sum rfl) d_sum (by rfl) B.sum (by decide +kernel) (pda_cons (ph_val (pd_own (pod_lc rfl nd (pdi_enum (by rfl) B.enumerate (pd_var (pv 9))) (own := [("at", 12), ("item", 13)]) (by exact blkOk_by (N := N__law_great) (sc := defScope st__law_great) (own := [("at", 12), ("item", 13)]) (by decide +kernel)) ⟨fun S s H C cl fp => (pgd_tup rfl (pgsd_cons (pgd_name (i := 12) nd rfl (.inl rfl)) (pgsd_cons (pgd_name (i := 13) nd rfl (.inl rfl)) pgsd_nil))), fun S s H C cl fp => ptd_nil, fun S s H C cl fp => (pd_op r_mul d_mul (ph_name (pv 13)) (ph_val (pd_ix ix_seq d_ix (ph_name (pv 8)) (ph_name (pv 12)) (fun _ _ => rfl))))⟩ (by decide) (tg_tup (tgs_cons (tg_name (by decide)) (tgs_cons (tg_name (by decide)) tgs_nil)))))) pda_nil))) pda_nil))) (ph_name (pv 2)))))))))))
theorem gal__law_great {P : Program} {ww : World} {K : PySem.W.Frag} {mg : Str → Option Value} {base : Heap} {f : Addr} {fd : FuncData} (F : L2.Fun K "_law_great" "_law_great" st__law_great f fd) (hm : mg "_law_great" = some (.ref f)) (b : Binds K fd ["rods", "length", "number"] []) (B : Bl mg) (G__law_counts : Gal P ww K mg base 1 "_law_counts" (spV 2 K F__law_counts)) (G__law_led : Gal P ww K mg base 1 "_law_led" (spV 4 K F__law_led)) : Gal P ww K mg base 2 "_law_great" (spV 3 K F__law_great) :=
  galV F hm b sc__law_great (body__law_great B G__law_counts G__law_led)
/-! ### _law_are_sums_right -/
abbrev st__law_are_sums_right : Stmt := topS 37
abbrev N__law_are_sums_right : List Str := ["hand", "rods", "most", "rows", "even", "length", "colours", "alike", "many", "whole", "rounds", "told", "due", "one", "other"]
theorem sc__law_are_sums_right : FnScope N__law_are_sums_right ["hand", "rods", "most"] (defScope st__law_are_sums_right) := ⟨rfl, rfl, rfl, by decide +kernel, rfl, by decide +kernel, by decide +kernel⟩
def s__law_are_sums_right : SX := (sSeq (sSet 3 (eFn F__law_counts (mP (eVar 1) (mP (eVar 2) mNil))))
  (sSeq (sSetO 4 (oLc (iSeq (eVar 1)) (txT 2 (txsCons (txN 5) (txsCons (txN 6) txsNil))) bYes (eOwn (oLst (aCons (hVal (eVar 5)) (aCons (hVal (eVar 6)) aNil)))) [5, 6]))
  (sSeq (sSetO 7 (oLst aNil))
  (sSeq (sFor (iRange rg1 (aCons (hVal (eOp gAdd (hName 2) (hVal (eC (.int 1))))) aNil)) (txN 8) (sSeq (sSet 9 (eIf (bE (eOp gEq (hVal (eOp gMod (hVal (eCall (g1 dInt) (aCons (hName 8) aNil))) (hVal (eC (.int 2))))) (hVal (eC (.int 0))))) (eOp gIx (hName 3) (hVal (eOp gDiv (hName 8) (hVal (eC (.int 2)))))) (eC (.int 0))))
  (sSeq (sFor (iSeq (eVar 4)) (txT 2 (txsCons (txN 5) (txsCons (txN 6) txsNil))) (sIf (bAnd (bE (eOp gLe (hName 5) (hName 8))) (bE (eOp gEq (hVal (eOp gMod (hVal (eCall (g1 dInt) (aCons (hVal (eOp gSub (hName 8) (hName 5))) aNil))) (hVal (eC (.int 2))))) (hVal (eC (.int 0)))))) (sSet 9 (eOp gAdd (hName 9) (hVal (eOp gMul (hName 6) (hVal (eOp gIx (hName 3) (hVal (eOp gDiv (hVal (eOp gSub (hName 8) (hName 5))) (hVal (eC (.int 2))))))))))) sNext))
  (sApp 7 (eVar 9)))))
  (sSeq (sSetO 10 (oLst aNil))
  (sSeq (sFor (iRange rg2 (aCons (hVal (eC (.int 1))) (aCons (hVal (eOp gAdd (hName 2) (hVal (eC (.int 1))))) aNil))) (txN 8) (sApp 10 (eCall (g1 dSum) (aCons (hVal (eOwn (oLc (iSeq (eVar 1)) (txT 2 (txsCons (txN 5) (txsCons (txN 6) txsNil))) (bE (eOp gLe (hName 5) (hName 8))) (eOp gMul (hVal (eOp gMul (hName 5) (hName 6))) (hVal (eOp gIx (hName 3) (hVal (eOp gSub (hName 8) (hName 5)))))) [5, 6]))) aNil))))
  (sSeq (sSetO 11 (oLst (aCons (hVal (eOwn (oCall (c1 cList) (aCons (hVal (eFn F_counts (mP (eVar 1) (mP (eVar 2) mNil)))) aNil)))) (aCons (hVal (eOwn (oCall (c1 cList) (aCons (hVal (eFn F_mirrored_counts (mP (eVar 1) (mP (eVar 2) mNil)))) aNil)))) (aCons (hVal (eOwn (oCall (c1 cList) (aCons (hVal (eFn F_unlike_counts (mP (eVar 1) (mP (eVar 2) mNil)))) aNil)))) aNil)))))
  (sSeq (sSetO 12 (oLst (aCons (hVal (eVar 3)) (aCons (hVal (eVar 7)) (aCons (hVal (eOwn (oLc (iZipD (eVar 3) (eVar 7)) (txT 2 (txsCons (txN 13) (txsCons (txN 14) txsNil))) bYes (eOp gDiv (hVal (eOp gAdd (hName 13) (hName 14))) (hVal (eC (.int 2)))) [13, 14]))) aNil)))))
  (sRet (eFn F__law_like (mP (eOwn (oOp cCat (hName 11) (hVal (eOwn (oLst (aCons (hVal (eOwn (oCall (c1 cList) (aCons (hVal (eFn F_round_counts (mP (eVar 1) (mP (eVar 2) mNil)))) aNil)))) aNil)))))) (mP (eOwn (oOp cCat (hName 12) (hVal (eOwn (oLst (aCons (hVal (eVar 10)) aNil)))))) mNil))))))))))))
def F__law_are_sums_right : Ct → List D → Option (D × Ct) := runR 15 s__law_are_sums_right
theorem body__law_are_sums_right {P : Program} {ww : World} {K : PySem.W.Frag} {mg : Str → Option Value} {base : Heap} {f : Addr} (B : Bl mg) (G__law_counts : Gal P ww K mg base 1 "_law_counts" (spV 2 K F__law_counts)) (G_unlike_counts : Gal P ww K mg base 6 "unlike_counts" (spV 2 K F_unlike_counts)) (G_mirrored_counts : Gal P ww K mg base 5 "mirrored_counts" (spV 2 K F_mirrored_counts)) (G_counts : Gal P ww K mg base 4 "counts" (spV 2 K F_counts)) (G__law_like : Gal P ww K mg base 1 "_law_like" (spV 2 K F__law_like)) (G_round_counts : Gal P ww K mg base 5 "round_counts" (spV 2 K F_round_counts)) : Body P ww K mg base N__law_are_sums_right 6 "_law_are_sums_right" st__law_are_sums_right f s__law_are_sums_right := by
  intro S cdv A outer s H E hr hG
  have nd : N__law_are_sums_right.Nodup := sc__law_are_sums_right.nd
  have G__law_counts := G__law_counts.mono (k' := 6) (by decide)
  have G_mirrored_counts := G_mirrored_counts.mono (k' := 6) (by decide)
  have G_counts := G_counts.mono (k' := 6) (by decide)
  have G__law_like := G__law_like.mono (k' := 6) (by decide)
  have G_round_counts := G_round_counts.mono (k' := 6) (by decide)
  exact (pssd_cons (psd_set (i := 3) nd rfl (.inr rfl) (pd_gal G__law_counts hG hr (by rfl) (pdm_p (pd_var (pv 1)) (pdm_p (pd_var (pv 2)) pdm_nil)) (mlen_p (mlen_p mlen_nil))))
  (pssd_cons (psd_setLc (i := 4) rfl nd rfl rfl (sw_true rfl rfl rfl rfl) (pdi_seq (pd_var (pv 1))) (own := [("length", 5), ("colours", 6)]) (by exact blkOk_by (N := N__law_are_sums_right) (sc := defScope st__law_are_sums_right) (own := [("length", 5), ("colours", 6)]) (by decide +kernel)) ⟨fun S s H C cl fp => (pgd_tup rfl (pgsd_cons (pgd_name (i := 5) nd rfl (.inl rfl)) (pgsd_cons (pgd_name (i := 6) nd rfl (.inl rfl)) pgsd_nil))), fun S s H C cl fp => ptd_nil, fun S s H C cl fp => (pd_own (po_lst (pda_cons (ph_val (pd_var (pv 5))) (pda_cons (ph_val (pd_var (pv 6))) pda_nil))))⟩ (by decide) (tg_tup (tgs_cons (tg_name (by decide)) (tgs_cons (tg_name (by decide)) tgs_nil))))
  (pssd_cons (psd_setO (i := 7) nd rfl (.inl rfl) (po_lst pda_nil))
  (pssd_cons (psd_for PassesOwn.never rfl (pdi_range1 (by rfl) B.range (pda_cons (ph_val (pd_op r_add d_add (ph_name (pv 2)) (ph_val (pd_int pe_int)))) pda_nil)) (pgd_name (i := 8) nd rfl (.inr rfl)) (pssd_cons (psd_set (i := 9) nd rfl (.inl rfl) (pd_if (pdt_cmp (r_eq hr.units) d_eq (ph_val (pd_op op_mod d_mod (ph_val (pd_callT call_int1 d_int (by rfl) B.int (by decide +kernel) (pda_cons (ph_name (pv 8)) pda_nil))) (ph_val (pd_int pe_int)))) (ph_val (pd_int pe_int)) (nomark _)) (pd_ix ix_seq d_ix (ph_name (pv 3)) (ph_val (pd_op op_fdivW d_div (ph_name (pv 8)) (ph_val (pd_int pe_int)))) (fun _ _ => rfl)) (pd_int pe_int)))
  (pssd_cons (psd_for PassesOwn.never rfl (pdi_seq (pd_var (pv 4))) (pgd_tup rfl (pgsd_cons (pgd_name (i := 5) nd rfl (.inl rfl)) (pgsd_cons (pgd_name (i := 6) nd rfl (.inl rfl)) pgsd_nil))) (pssd_one (psd_if (pdt_bool (pdw_and (pdt_cmp op_le d_le (ph_name (pv 5)) (ph_name (pv 8)) (nomark _)) (pdw_and1 (pdt_cmp (r_eq hr.units) d_eq (ph_val (pd_op op_mod d_mod (ph_val (pd_callT call_int1 d_int (by rfl) B.int (by decide +kernel) (pda_cons (ph_val (pd_op op_sub d_sub (ph_name (pv 8)) (ph_name (pv 5)))) pda_nil))) (ph_val (pd_int pe_int)))) (ph_val (pd_int pe_int)) (nomark _))))) (pssd_one (psd_set (i := 9) nd rfl (.inl rfl) (pd_op r_add d_add (ph_name (pv 9)) (ph_val (pd_op r_mul d_mul (ph_name (pv 6)) (ph_val (pd_ix ix_seq d_ix (ph_name (pv 3)) (ph_val (pd_op op_fdivW d_div (ph_val (pd_op op_sub d_sub (ph_name (pv 8)) (ph_name (pv 5)))) (ph_val (pd_int pe_int)))) (fun _ _ => rfl)))))))) pssd_nil)))
  (pssd_one (psd_app (pv 7) (pd_var (pv 9)))))))
  (pssd_cons (psd_setO (i := 10) nd rfl (.inl rfl) (po_lst pda_nil))
  (pssd_cons (psd_for PassesOwn.never rfl (pdi_range2 (by rfl) B.range (pda_cons (ph_val (pd_int pe_int)) (pda_cons (ph_val (pd_op r_add d_add (ph_name (pv 2)) (ph_val (pd_int pe_int)))) pda_nil))) (pgd_name (i := 8) nd rfl (.inr rfl)) (pssd_one (psd_app (pv 10) (pd_callB (cr_sum rfl) d_sum (by rfl) B.sum (by decide +kernel) (pda_cons (ph_val (pd_own (pod_lc rfl nd (pdi_seq (pd_var (pv 1))) (own := [("length", 5), ("colours", 6)]) (by exact blkOk_by (N := N__law_are_sums_right) (sc := defScope st__law_are_sums_right) (own := [("length", 5), ("colours", 6)]) (by decide +kernel)) ⟨fun S s H C cl fp => (pgd_tup rfl (pgsd_cons (pgd_name (i := 5) nd rfl (.inl rfl)) (pgsd_cons (pgd_name (i := 6) nd rfl (.inl rfl)) pgsd_nil))), fun S s H C cl fp => (ptd_one (pdt_cmp op_le d_le (ph_name (pv 5)) (ph_name (pv 8)) (nomark _))), fun S s H C cl fp => (pd_op r_mul d_mul (ph_val (pd_op r_mul d_mul (ph_name (pv 5)) (ph_name (pv 6)))) (ph_val (pd_ix ix_seq d_ix (ph_name (pv 3)) (ph_val (pd_op op_sub d_sub (ph_name (pv 8)) (ph_name (pv 5)))) (fun _ _ => rfl))))⟩ (by decide) (tg_tup (tgs_cons (tg_name (by decide)) (tgs_cons (tg_name (by decide)) tgs_nil)))))) pda_nil)))))
  (pssd_cons (psd_setO (i := 11) nd rfl (.inl rfl) (po_lst (pda_cons (ph_val (pd_own (po_callT call_list_of o_list (by rfl) B.list (by decide +kernel) (pda_cons (ph_val (pd_gal G_counts hG hr (by rfl) (pdm_p (pd_var (pv 1)) (pdm_p (pd_var (pv 2)) pdm_nil)) (mlen_p (mlen_p mlen_nil)))) pda_nil)))) (pda_cons (ph_val (pd_own (po_callT call_list_of o_list (by rfl) B.list (by decide +kernel) (pda_cons (ph_val (pd_gal G_mirrored_counts hG hr (by rfl) (pdm_p (pd_var (pv 1)) (pdm_p (pd_var (pv 2)) pdm_nil)) (mlen_p (mlen_p mlen_nil)))) pda_nil)))) (pda_cons (ph_val (pd_own (po_callT call_list_of o_list (by rfl) B.list (by decide +kernel) (pda_cons (ph_val (pd_gal G_unlike_counts hG hr (by rfl) (pdm_p (pd_var (pv 1)) (pdm_p (pd_var (pv 2)) pdm_nil)) (mlen_p (mlen_p mlen_nil)))) pda_nil)))) pda_nil)))))
  (pssd_cons (psd_setO (i := 12) nd rfl (.inl rfl) (po_lst (pda_cons (ph_val (pd_var (pv 3))) (pda_cons (ph_val (pd_var (pv 7))) (pda_cons (ph_val (pd_own (pod_lc rfl nd (pdi_zip (by rfl) B.zip (pd_var (pv 3)) (pd_var (pv 7))) (own := [("one", 13), ("other", 14)]) (by exact blkOk_by (N := N__law_are_sums_right) (sc := defScope st__law_are_sums_right) (own := [("one", 13), ("other", 14)]) (by decide +kernel)) ⟨fun S s H C cl fp => (pgd_tup rfl (pgsd_cons (pgd_name (i := 13) nd rfl (.inl rfl)) (pgsd_cons (pgd_name (i := 14) nd rfl (.inl rfl)) pgsd_nil))), fun S s H C cl fp => ptd_nil, fun S s H C cl fp => (pd_op op_fdivW d_div (ph_val (pd_op r_add d_add (ph_name (pv 13)) (ph_name (pv 14)))) (ph_val (pd_int pe_int)))⟩ (by decide) (tg_tup (tgs_cons (tg_name (by decide)) (tgs_cons (tg_name (by decide)) tgs_nil)))))) pda_nil)))))
  (pssd_one (psd_ret (pd_gal G__law_like hG hr (by rfl) (pdm_p (pd_own (po_op op_cat o_cat (ph_name (pv 11)) (ph_val (pd_own (po_lst (pda_cons (ph_val (pd_own (po_callT call_list_of o_list (by rfl) B.list (by decide +kernel) (pda_cons (ph_val (pd_gal G_round_counts hG hr (by rfl) (pdm_p (pd_var (pv 1)) (pdm_p (pd_var (pv 2)) pdm_nil)) (mlen_p (mlen_p mlen_nil)))) pda_nil)))) pda_nil)))))) (pdm_p (pd_own (po_op op_cat o_cat (ph_name (pv 12)) (ph_val (pd_own (po_lst (pda_cons (ph_val (pd_var (pv 10))) pda_nil)))))) pdm_nil)) (mlen_p (mlen_p mlen_nil)))))))))))))
theorem gal__law_are_sums_right {P : Program} {ww : World} {K : PySem.W.Frag} {mg : Str → Option Value} {base : Heap} {f : Addr} {fd : FuncData} (F : L2.Fun K "_law_are_sums_right" "_law_are_sums_right" st__law_are_sums_right f fd) (hm : mg "_law_are_sums_right" = some (.ref f)) (b : Binds K fd ["hand", "rods", "most"] []) (B : Bl mg) (G__law_counts : Gal P ww K mg base 1 "_law_counts" (spV 2 K F__law_counts)) (G_unlike_counts : Gal P ww K mg base 6 "unlike_counts" (spV 2 K F_unlike_counts)) (G_mirrored_counts : Gal P ww K mg base 5 "mirrored_counts" (spV 2 K F_mirrored_counts)) (G_counts : Gal P ww K mg base 4 "counts" (spV 2 K F_counts)) (G__law_like : Gal P ww K mg base 1 "_law_like" (spV 2 K F__law_like)) (G_round_counts : Gal P ww K mg base 5 "round_counts" (spV 2 K F_round_counts)) : Gal P ww K mg base 7 "_law_are_sums_right" (spR 3 K F__law_are_sums_right) :=
  galR F hm b sc__law_are_sums_right (body__law_are_sums_right B G__law_counts G_unlike_counts G_mirrored_counts G_counts G__law_like G_round_counts)
/-! ### _law_is_row_right -/
abbrev st__law_is_row_right : Stmt := topS 38
abbrev N__law_is_row_right : List Str := ["hand", "rods", "length", "rows", "row", "place", "other", "told", "at", "bent", "flags", "thing", "rodded", "spot", "many", "some", "size", "colours", "few"]
theorem sc__law_is_row_right : FnScope N__law_is_row_right ["hand", "rods", "length"] (defScope st__law_is_row_right) := ⟨rfl, rfl, rfl, by decide +kernel, rfl, by decide +kernel, by decide +kernel⟩
def s__law_is_row_right : SX := (sSeq (sSet 3 (eFn F__law_counts (mP (eVar 1) (mP (eVar 2) mNil))))
  (sSeq (sSet 4 (eRef F__law_row 0 (mP (eVar 1) (mP (eVar 3) (mP (eVar 2) mNil)))))
  (sSeq (sSet 5 (eFn F__law_rank (mP (eVar 1) (mP (eVar 3) (mP (eVar 4) mNil)))))
  (sSeq (sSet 6 (eOp gAdd (hVal (eOp gMul (hVal (eRef F__law_draw 0 (mP (eOp gPow (hVal (eC (.int 10))) (hVal (eC (.int 9)))) mNil))) (hVal (eOp gPow (hVal (eC (.int 10))) (hVal (eC (.int 9))))))) (hVal (eRef F__law_draw 0 (mP (eOp gPow (hVal (eC (.int 10))) (hVal (eC (.int 9)))) mNil)))))
  (sSeq (sSet 6 (eOp gMod (hVal (eCall (g1 dInt) (aCons (hName 6) aNil))) (hVal (eOp gIx (hName 3) (hName 2)))))
  (sSeq (sSet 7 (eFn F_row_at (mP (eVar 1) (mP (eVar 2) (mP (eVar 6) mNil)))))
  (sSeq (sIf (bNot (bE (eFn F__law_like (mP (eOwn (oLst (aCons (hVal (eFn F_rank (mP (eVar 1) (mP (eVar 4) mNil)))) (aCons (hVal (eFn F_row_at (mP (eVar 1) (mP (eVar 2) (mP (eVar 5) mNil))))) (aCons (hVal (eFn F__law_rank (mP (eVar 1) (mP (eVar 3) (mP (eVar 7) mNil))))) aNil))))) (mP (eOwn (oLst (aCons (hVal (eVar 5)) (aCons (hVal (eVar 4)) (aCons (hVal (eVar 6)) aNil))))) mNil))))) (sRet (eC (.bl false))) sNext)
  (sSeq (sSet 8 (eRef F__law_draw 0 (mP (eCall (g1 dLen) (aCons (hName 4) aNil)) mNil)))
  (sSeq (sSet 9 (eOp gAdd (hVal (eOp gAdd (hVal (eSl gSl (hName 4) pNo (pSo (eVar 8)))) (hVal (eTup (aCons (hVal (eTup (aCons (hVal (eOp gIx (hVal (eOp gIx (hName 4) (hName 8))) (hVal (eC (.int 0))))) (aCons (hVal (eOp gAdd (hVal (eOp gIx (hVal (eOp gIx (hName 4) (hName 8))) (hVal (eC (.int 1))))) (hVal (eC (.int 9))))) aNil)))) aNil))))) (hVal (eSl gSl (hName 4) (pSo (eOp gAdd (hName 8) (hVal (eC (.int 1))))) pNo))))
  (sSeq (sSetO 10 (oLc (iSeq (eTup (aCons (hVal (eVar 4)) (aCons (hVal (eVar 7)) (aCons (hVal (eVar 9)) (aCons (hVal (eSl gSl (hName 4) (pSo (eC (.int 1))) pNo)) (aCons (hVal (eOwn (oCall (c1 cList) (aCons (hName 4) aNil)))) (aCons (hVal (eBack (hName 4))) aNil)))))))) (txN 11) bYes (eFn F_is_filled (mP (eVar 1) (mP (eVar 2) (mP (eVar 11) mNil)))) [11]))
  (sSeq (sIf (bNot (bE (eFn F__law_like (mP (eVar 10) (mP (eOwn (oLst (aCons (hVal (eC (.bl true))) (aCons (hVal (eC (.bl true))) (aCons (hVal (eC (.bl false))) (aCons (hVal (eC (.bl false))) (aCons (hVal (eC (.bl false))) (aCons (hVal (eC (.bl true))) aNil)))))))) mNil))))) (sRet (eC (.bl false))) sNext)
  (sSeq (sPar [12, 13] (mO (oLst (aCons (hVal (eC (.int 0))) aNil)) (mP (eRef F__law_draw 0 (mP (eOp gAdd (hName 2) (hVal (eC (.int 1)))) mNil)) mNil)))
  (sSeq (sFor (iRange rg2 (aCons (hVal (eC (.int 1))) (aCons (hVal (eOp gAdd (hName 2) (hVal (eC (.int 1))))) aNil))) (txN 14) (sSeq (sSetO 15 (oLc (iSeq (eVar 1)) (txT 2 (txsCons (txN 16) (txsCons (txN 17) txsNil))) (bE (eOp gLe (hName 16) (hName 14))) (eTup (aCons (hVal (eVar 16)) (aCons (hVal (eVar 17)) aNil))) [16, 17]))
  (sApp 12 (eCall (g1 dSum) (aCons (hVal (eOwn (oLc (iSeq (eVar 15)) (txT 2 (txsCons (txN 16) (txsCons (txN 17) txsNil))) bYes (eOp gMul (hName 17) (hVal (eOp gAdd (hVal (eOp gIx (hName 12) (hVal (eOp gSub (hName 14) (hName 16))))) (hVal (eOp gIx (hName 3) (hVal (eOp gSub (hName 14) (hName 16)))))))) [16, 17]))) aNil)))))
  (sSeq (sSetO 18 (oLst (aCons (hVal (eC (.int 0))) aNil)))
  (sSeq (sFor (iRange rg2 (aCons (hVal (eC (.int 1))) (aCons (hVal (eOp gAdd (hName 2) (hVal (eC (.int 1))))) aNil))) (txN 14) (sSeq (sSetO 15 (oLc (iSeq (eVar 1)) (txT 2 (txsCons (txN 16) (txsCons (txN 17) txsNil))) (bAnd (bE (eOp gLe (hName 16) (hName 14))) (bE (eIsN true (hVal (eOp gIx (hName 18) (hVal (eOp gSub (hName 14) (hName 16)))))))) (eOp gIx (hName 18) (hVal (eOp gSub (hName 14) (hName 16)))) [16, 17]))
  (sApp 18 (eIf (bE (eOp gNe (hName 15) (hVal (eOwn (oLst aNil))))) (eOp gAdd (hVal (eC (.int 1))) (hVal (eCall (g1 dMinL) (aCons (hName 15) aNil)))) (eC .non)))))
  (sSeq (sSetO 7 (oLst (aCons (hVal (eFn F_mean_rods (mP (eVar 1) (mP (eVar 2) mNil)))) (aCons (hVal (eFn F_broken_at (mP (eVar 1) (mP (eVar 2) (mP (eVar 13) mNil))))) (aCons (hVal (eFn F_fewest (mP (eVar 1) (mP (eVar 2) mNil)))) aNil)))))
  (sRet (eFn F__law_like (mP (eVar 7) (mP (eOwn (oLst (aCons (hVal (eOp gIx (hName 12) (hName 2))) (aCons (hVal (eOp gMul (hVal (eOp gIx (hName 3) (hName 13))) (hVal (eOp gIx (hName 3) (hVal (eOp gSub (hName 2) (hName 13))))))) (aCons (hVal (eOp gIx (hName 18) (hName 2))) aNil))))) mNil))))))))))))))))))))
def F__law_is_row_right : Ct → List D → Option (D × Ct) := runR 19 s__law_is_row_right
theorem body__law_is_row_right {P : Program} {ww : World} {K : PySem.W.Frag} {mg : Str → Option Value} {base : Heap} {f : Addr} (B : Bl mg) (G__law_counts : Gal P ww K mg base 1 "_law_counts" (spV 2 K F__law_counts)) (G__law_row : Gal P ww K mg base 3 "_law_row" (spR 4 K F__law_row)) (G__law_rank : Gal P ww K mg base 1 "_law_rank" (spV 3 K F__law_rank)) (G__law_draw : Gal P ww K mg base 1 "_law_draw" (spR 2 K F__law_draw)) (G_row_at : Gal P ww K mg base 5 "row_at" (spV 3 K F_row_at)) (G__law_like : Gal P ww K mg base 1 "_law_like" (spV 2 K F__law_like)) (G_rank : Gal P ww K mg base 5 "rank" (spV 2 K F_rank)) (G_is_filled : Gal P ww K mg base 4 "is_filled" (spV 3 K F_is_filled)) (G_fewest : Gal P ww K mg base 4 "fewest" (spV 2 K F_fewest)) (G_broken_at : Gal P ww K mg base 5 "broken_at" (spV 3 K F_broken_at)) (G_mean_rods : Gal P ww K mg base 5 "mean_rods" (spV 2 K F_mean_rods)) : Body P ww K mg base N__law_is_row_right 5 "_law_is_row_right" st__law_is_row_right f s__law_is_row_right := by
  intro S cdv A outer s H E hr hG
  have nd : N__law_is_row_right.Nodup := sc__law_is_row_right.nd
  have G__law_counts := G__law_counts.mono (k' := 5) (by decide)
  have G__law_row := G__law_row.mono (k' := 5) (by decide)
  have G__law_rank := G__law_rank.mono (k' := 5) (by decide)
  have G__law_draw := G__law_draw.mono (k' := 5) (by decide)
  have G__law_like := G__law_like.mono (k' := 5) (by decide)
  have G_is_filled := G_is_filled.mono (k' := 5) (by decide)
  have G_fewest := G_fewest.mono (k' := 5) (by decide)
  exact (pssd_cons (psd_set (i := 3) nd rfl (.inr rfl) (pd_gal G__law_counts hG hr (by rfl) (pdm_p (pd_var (pv 1)) (pdm_p (pd_var (pv 2)) pdm_nil)) (mlen_p (mlen_p mlen_nil))))
  (pssd_cons (psd_set (i := 4) nd rfl (.inl rfl) (pd_ref G__law_row hG hr (by rfl) (pv 0) (pdm_p (pd_var (pv 1)) (pdm_p (pd_var (pv 3)) (pdm_p (pd_var (pv 2)) pdm_nil))) (mlen_p (mlen_p (mlen_p mlen_nil)))))
  (pssd_cons (psd_set (i := 5) nd rfl (.inl rfl) (pd_gal G__law_rank hG hr (by rfl) (pdm_p (pd_var (pv 1)) (pdm_p (pd_var (pv 3)) (pdm_p (pd_var (pv 4)) pdm_nil))) (mlen_p (mlen_p (mlen_p mlen_nil)))))
  (pssd_cons (psd_set (i := 6) nd rfl (.inl rfl) (pd_op r_add d_add (ph_val (pd_op r_mul d_mul (ph_val (pd_ref G__law_draw hG hr (by rfl) (pv 0) (pdm_p (pd_op op_pow d_pow (ph_val (pd_int pe_int)) (ph_val (pd_int pe_int))) pdm_nil) (mlen_p mlen_nil))) (ph_val (pd_op op_pow d_pow (ph_val (pd_int pe_int)) (ph_val (pd_int pe_int)))))) (ph_val (pd_ref G__law_draw hG hr (by rfl) (pv 0) (pdm_p (pd_op op_pow d_pow (ph_val (pd_int pe_int)) (ph_val (pd_int pe_int))) pdm_nil) (mlen_p mlen_nil)))))
  (pssd_cons (psd_set (i := 6) nd rfl (.inl rfl) (pd_op op_mod d_mod (ph_val (pd_callT call_int1 d_int (by rfl) B.int (by decide +kernel) (pda_cons (ph_name (pv 6)) pda_nil))) (ph_val (pd_ix ix_seq d_ix (ph_name (pv 3)) (ph_name (pv 2)) (fun _ _ => rfl)))))
  (pssd_cons (psd_set (i := 7) nd rfl (.inl rfl) (pd_gal G_row_at hG hr (by rfl) (pdm_p (pd_var (pv 1)) (pdm_p (pd_var (pv 2)) (pdm_p (pd_var (pv 6)) pdm_nil))) (mlen_p (mlen_p (mlen_p mlen_nil)))))
  (pssd_cons (psd_if (pdt_not (pdt_val (pd_gal G__law_like hG hr (by rfl) (pdm_p (pd_own (po_lst (pda_cons (ph_val (pd_gal G_rank hG hr (by rfl) (pdm_p (pd_var (pv 1)) (pdm_p (pd_var (pv 4)) pdm_nil)) (mlen_p (mlen_p mlen_nil)))) (pda_cons (ph_val (pd_gal G_row_at hG hr (by rfl) (pdm_p (pd_var (pv 1)) (pdm_p (pd_var (pv 2)) (pdm_p (pd_var (pv 5)) pdm_nil))) (mlen_p (mlen_p (mlen_p mlen_nil))))) (pda_cons (ph_val (pd_gal G__law_rank hG hr (by rfl) (pdm_p (pd_var (pv 1)) (pdm_p (pd_var (pv 3)) (pdm_p (pd_var (pv 7)) pdm_nil))) (mlen_p (mlen_p (mlen_p mlen_nil))))) pda_nil))))) (pdm_p (pd_own (po_lst (pda_cons (ph_val (pd_var (pv 5))) (pda_cons (ph_val (pd_var (pv 4))) (pda_cons (ph_val (pd_var (pv 6))) pda_nil))))) pdm_nil)) (mlen_p (mlen_p mlen_nil))))) (pssd_one (psd_ret (pd_bl pe_bl))) pssd_nil)
  (pssd_cons (psd_set (i := 8) nd rfl (.inl rfl) (pd_ref G__law_draw hG hr (by rfl) (pv 0) (pdm_p (pd_callB c_len d_len (by rfl) B.len (by decide +kernel) (pda_cons (ph_name (pv 4)) pda_nil)) pdm_nil) (mlen_p mlen_nil)))
  (pssd_cons (psd_set (i := 9) nd rfl (.inl rfl) (pd_op r_add d_add (ph_val (pd_op r_add d_add (ph_val (pd_sl r_sl d_sl (ph_name (pv 4)) pdp_none (pdp_some (pd_var (pv 8))))) (ph_val (pd_tup (pda_cons (ph_val (pd_tup (pda_cons (ph_val (pd_ix ix_seq d_ix (ph_val (pd_ix ix_seq d_ix (ph_name (pv 4)) (ph_name (pv 8)) (fun _ _ => rfl))) (ph_val (pd_int pe_int)) (fun _ _ => rfl))) (pda_cons (ph_val (pd_op r_add d_add (ph_val (pd_ix ix_seq d_ix (ph_val (pd_ix ix_seq d_ix (ph_name (pv 4)) (ph_name (pv 8)) (fun _ _ => rfl))) (ph_val (pd_int pe_int)) (fun _ _ => rfl))) (ph_val (pd_int pe_int)))) pda_nil)))) pda_nil))))) (ph_val (pd_sl r_sl d_sl (ph_name (pv 4)) (pdp_some (pd_op r_add d_add (ph_name (pv 8)) (ph_val (pd_int pe_int)))) pdp_none))))
  (pssd_cons (psd_setLc (i := 10) rfl nd rfl rfl (sw_true rfl rfl rfl rfl) (pdi_seq (pd_tup (pda_cons (ph_val (pd_var (pv 4))) (pda_cons (ph_val (pd_var (pv 7))) (pda_cons (ph_val (pd_var (pv 9))) (pda_cons (ph_val (pd_sl r_sl d_sl (ph_name (pv 4)) (pdp_some (pd_int pe_int)) pdp_none)) (pda_cons (ph_val (pd_own (po_callT call_list_of o_list (by rfl) B.list (by decide +kernel) (pda_cons (ph_name (pv 4)) pda_nil)))) (pda_cons (ph_val (pd_back (ph_name (pv 4)))) pda_nil)))))))) (own := [("thing", 11)]) (by exact blkOk_by (N := N__law_is_row_right) (sc := defScope st__law_is_row_right) (own := [("thing", 11)]) (by decide +kernel)) ⟨fun S s H C cl fp => (pgd_name (i := 11) nd rfl (.inl rfl)), fun S s H C cl fp => ptd_nil, fun S s H C cl fp => (pd_gal G_is_filled hG hr (by rfl) (pdm_p (pd_var (pv 1)) (pdm_p (pd_var (pv 2)) (pdm_p (pd_var (pv 11)) pdm_nil))) (mlen_p (mlen_p (mlen_p mlen_nil))))⟩ (by decide) (tg_name (by decide)))
  (pssd_cons (psd_if (pdt_not (pdt_val (pd_gal G__law_like hG hr (by rfl) (pdm_p (pd_var (pv 10)) (pdm_p (pd_own (po_lst (pda_cons (ph_val (pd_bl pe_bl)) (pda_cons (ph_val (pd_bl pe_bl)) (pda_cons (ph_val (pd_bl pe_bl)) (pda_cons (ph_val (pd_bl pe_bl)) (pda_cons (ph_val (pd_bl pe_bl)) (pda_cons (ph_val (pd_bl pe_bl)) pda_nil)))))))) pdm_nil)) (mlen_p (mlen_p mlen_nil))))) (pssd_one (psd_ret (pd_bl pe_bl))) pssd_nil)
  (pssd_cons (psd_parT (i := 12) (j := 13) rfl nd rfl rfl (.inr rfl) (.inl rfl) rfl rfl (pdm_o (po_lst (pda_cons (ph_val (pd_int pe_int)) pda_nil)) (fun S => (pdm_p (pd_ref G__law_draw hG hr (by rfl) (pv 0) (pdm_p (pd_op r_add d_add (ph_name (pv 2)) (ph_val (pd_int pe_int))) pdm_nil) (mlen_p mlen_nil)) pdm_nil))))
  (pssd_cons (psd_for PassesOwn.never rfl (pdi_range2 (by rfl) B.range (pda_cons (ph_val (pd_int pe_int)) (pda_cons (ph_val (pd_op r_add d_add (ph_name (pv 2)) (ph_val (pd_int pe_int)))) pda_nil))) (pgd_name (i := 14) nd rfl (.inr rfl)) (pssd_cons (psd_setLc (i := 15) rfl nd rfl rfl (sw_true rfl rfl rfl rfl) (pdi_seq (pd_var (pv 1))) (own := [("size", 16), ("colours", 17)]) (by exact blkOk_by (N := N__law_is_row_right) (sc := defScope st__law_is_row_right) (own := [("size", 16), ("colours", 17)]) (by decide +kernel)) ⟨fun S s H C cl fp => (pgd_tup rfl (pgsd_cons (pgd_name (i := 16) nd rfl (.inl rfl)) (pgsd_cons (pgd_name (i := 17) nd rfl (.inl rfl)) pgsd_nil))), fun S s H C cl fp => (ptd_one (pdt_cmp op_le d_le (ph_name (pv 16)) (ph_name (pv 14)) (nomark _))), fun S s H C cl fp => (pd_tup (pda_cons (ph_val (pd_var (pv 16))) (pda_cons (ph_val (pd_var (pv 17))) pda_nil)))⟩ (by decide) (tg_tup (tgs_cons (tg_name (by decide)) (tgs_cons (tg_name (by decide)) tgs_nil))))
  (pssd_one (psd_app (pv 12) (pd_callB (cr_sum rfl) d_sum (by rfl) B.sum (by decide +kernel) (pda_cons (ph_val (pd_own (pod_lc rfl nd (pdi_seq (pd_var (pv 15))) (own := [("size", 16), ("colours", 17)]) (by exact blkOk_by (N := N__law_is_row_right) (sc := defScope st__law_is_row_right) (own := [("size", 16), ("colours", 17)]) (by decide +kernel)) ⟨fun S s H C cl fp => (pgd_tup rfl (pgsd_cons (pgd_name (i := 16) nd rfl (.inl rfl)) (pgsd_cons (pgd_name (i := 17) nd rfl (.inl rfl)) pgsd_nil))), fun S s H C cl fp => ptd_nil, fun S s H C cl fp => (pd_op r_mul d_mul (ph_name (pv 17)) (ph_val (pd_op r_add d_add (ph_val (pd_ix ix_seq d_ix (ph_name (pv 12)) (ph_val (pd_op op_sub d_sub (ph_name (pv 14)) (ph_name (pv 16)))) (fun _ _ => rfl))) (ph_val (pd_ix ix_seq d_ix (ph_name (pv 3)) (ph_val (pd_op op_sub d_sub (ph_name (pv 14)) (ph_name (pv 16)))) (fun _ _ => rfl))))))⟩ (by decide) (tg_tup (tgs_cons (tg_name (by decide)) (tgs_cons (tg_name (by decide)) tgs_nil)))))) pda_nil))))))
  (pssd_cons (psd_setO (i := 18) nd rfl (.inr rfl) (po_lst (pda_cons (ph_val (pd_int pe_int)) pda_nil)))
  (pssd_cons (psd_for PassesOwn.never rfl (pdi_range2 (by rfl) B.range (pda_cons (ph_val (pd_int pe_int)) (pda_cons (ph_val (pd_op r_add d_add (ph_name (pv 2)) (ph_val (pd_int pe_int)))) pda_nil))) (pgd_name (i := 14) nd rfl (.inr rfl)) (pssd_cons (psd_setLc (i := 15) rfl nd rfl rfl (sw_true rfl rfl rfl rfl) (pdi_seq (pd_var (pv 1))) (own := [("size", 16), ("colours", 17)]) (by exact blkOk_by (N := N__law_is_row_right) (sc := defScope st__law_is_row_right) (own := [("size", 16), ("colours", 17)]) (by decide +kernel)) ⟨fun S s H C cl fp => (pgd_tup rfl (pgsd_cons (pgd_name (i := 16) nd rfl (.inl rfl)) (pgsd_cons (pgd_name (i := 17) nd rfl (.inl rfl)) pgsd_nil))), fun S s H C cl fp => (ptd_one (pdt_bool (pdw_and (pdt_cmp op_le d_le (ph_name (pv 16)) (ph_name (pv 14)) (nomark _)) (pdw_and1 (pdt_notN (ph_val (pd_ix ix_seq d_ix (ph_name (pv 18)) (ph_val (pd_op op_sub d_sub (ph_name (pv 14)) (ph_name (pv 16)))) (fun _ _ => rfl)))))))), fun S s H C cl fp => (pd_ix ix_seq d_ix (ph_name (pv 18)) (ph_val (pd_op op_sub d_sub (ph_name (pv 14)) (ph_name (pv 16)))) (fun _ _ => rfl))⟩ (by decide) (tg_tup (tgs_cons (tg_name (by decide)) (tgs_cons (tg_name (by decide)) tgs_nil))))
  (pssd_one (psd_app (pv 18) (pd_if (pdt_cmp (op_neD hr.units) d_ne (ph_name (pv 15)) (ph_val (pd_own (po_lst pda_nil))) (nomark _)) (pd_op r_add d_add (ph_val (pd_int pe_int)) (ph_val (pd_callB (cr_min rfl) d_minL (by rfl) B.min (by decide +kernel) (pda_cons (ph_name (pv 15)) pda_nil)))) (pd_non pe_non))))))
  (pssd_cons (psd_setO (i := 7) nd rfl (.inl rfl) (po_lst (pda_cons (ph_val (pd_gal G_mean_rods hG hr (by rfl) (pdm_p (pd_var (pv 1)) (pdm_p (pd_var (pv 2)) pdm_nil)) (mlen_p (mlen_p mlen_nil)))) (pda_cons (ph_val (pd_gal G_broken_at hG hr (by rfl) (pdm_p (pd_var (pv 1)) (pdm_p (pd_var (pv 2)) (pdm_p (pd_var (pv 13)) pdm_nil))) (mlen_p (mlen_p (mlen_p mlen_nil))))) (pda_cons (ph_val (pd_gal G_fewest hG hr (by rfl) (pdm_p (pd_var (pv 1)) (pdm_p (pd_var (pv 2)) pdm_nil)) (mlen_p (mlen_p mlen_nil)))) pda_nil)))))
  (pssd_one (psd_ret (pd_gal G__law_like hG hr (by rfl) (pdm_p (pd_var (pv 7)) (pdm_p (pd_own (po_lst (pda_cons (ph_val (pd_ix ix_seq d_ix (ph_name (pv 12)) (ph_name (pv 2)) (fun _ _ => rfl))) (pda_cons (ph_val (pd_op r_mul d_mul (ph_val (pd_ix ix_seq d_ix (ph_name (pv 3)) (ph_name (pv 13)) (fun _ _ => rfl))) (ph_val (pd_ix ix_seq d_ix (ph_name (pv 3)) (ph_val (pd_op op_sub d_sub (ph_name (pv 2)) (ph_name (pv 13)))) (fun _ _ => rfl))))) (pda_cons (ph_val (pd_ix ix_seq d_ix (ph_name (pv 18)) (ph_name (pv 2)) (fun _ _ => rfl))) pda_nil))))) pdm_nil)) (mlen_p (mlen_p mlen_nil)))))))))))))))))))))
theorem gal__law_is_row_right {P : Program} {ww : World} {K : PySem.W.Frag} {mg : Str → Option Value} {base : Heap} {f : Addr} {fd : FuncData} (F : L2.Fun K "_law_is_row_right" "_law_is_row_right" st__law_is_row_right f fd) (hm : mg "_law_is_row_right" = some (.ref f)) (b : Binds K fd ["hand", "rods", "length"] []) (B : Bl mg) (G__law_counts : Gal P ww K mg base 1 "_law_counts" (spV 2 K F__law_counts)) (G__law_row : Gal P ww K mg base 3 "_law_row" (spR 4 K F__law_row)) (G__law_rank : Gal P ww K mg base 1 "_law_rank" (spV 3 K F__law_rank)) (G__law_draw : Gal P ww K mg base 1 "_law_draw" (spR 2 K F__law_draw)) (G_row_at : Gal P ww K mg base 5 "row_at" (spV 3 K F_row_at)) (G__law_like : Gal P ww K mg base 1 "_law_like" (spV 2 K F__law_like)) (G_rank : Gal P ww K mg base 5 "rank" (spV 2 K F_rank)) (G_is_filled : Gal P ww K mg base 4 "is_filled" (spV 3 K F_is_filled)) (G_fewest : Gal P ww K mg base 4 "fewest" (spV 2 K F_fewest)) (G_broken_at : Gal P ww K mg base 5 "broken_at" (spV 3 K F_broken_at)) (G_mean_rods : Gal P ww K mg base 5 "mean_rods" (spV 2 K F_mean_rods)) : Gal P ww K mg base 6 "_law_is_row_right" (spR 3 K F__law_is_row_right) :=
  galR F hm b sc__law_is_row_right (body__law_is_row_right B G__law_counts G__law_row G__law_rank G__law_draw G_row_at G__law_like G_rank G_is_filled G_fewest G_broken_at G_mean_rods)
/-! ### law -/
abbrev st_law : Stmt := topS 39
abbrev N_law : List Str := ["script", "hand", "rods", "length", "few", "rod", "great", "number"]
theorem sc_law : FnScope N_law ["script"] (defScope st_law) := ⟨rfl, rfl, rfl, by decide +kernel, rfl, by decide +kernel, by decide +kernel⟩
def s_law : SX := (sSeq (sSetO 1 (oFn F__law_hand (mP (eVar 0) mNil)))
  (sSeq (sSet 2 (eRef F__law_rods 1 mNil))
  (sSeq (sIf (bNot (bE (eRef F__law_are_sums_right 1 (mP (eVar 2) (mP (eOp gAdd (hVal (eC (.int 60))) (hVal (eRef F__law_draw 1 (mP (eC (.int 60)) mNil)))) mNil))))) (sRet (eC (.bl false))) sNext)
  (sSeq (sSet 3 (eOp gAdd (hVal (eC (.int 100))) (hVal (eRef F__law_draw 1 (mP (eC (.int 100)) mNil)))))
  (sSeq (sIf (bAnd (bE (eOp gGt (hVal (eOp gIx (hVal (eFn F__law_counts (mP (eVar 2) (mP (eVar 3) mNil)))) (hName 3))) (hVal (eC (.int 0))))) (bNot (bE (eRef F__law_is_row_right 1 (mP (eVar 2) (mP (eVar 3) mNil)))))) (sRet (eC (.bl false))) sNext)
  (sSeq (sSetO 4 (oLc (iSeq (eVar 2)) (txN 5) (bE (eOp gLe (hVal (eOp gIx (hName 5) (hVal (eC (.int 0))))) (hVal (eC (.int 12))))) (eVar 5) [5]))
  (sSeq (sIf (bE (eOp gEq (hName 4) (hVal (eOwn (oLst aNil))))) (sRet (eC (.bl true))) sNext)
  (sSeq (sPar [6, 7] (mP (eRef F__law_any 1 (mP (eOwn (oLst (aCons (hVal (eOp gPow (hVal (eC (.int 10))) (hVal (eC (.int 12))))) (aCons (hVal (eOp gSub (hVal (eOp gPow (hVal (eC (.int 10))) (hVal (eC (.int 12))))) (hVal (eC (.int 1))))) (aCons (hVal (eOp gAdd (hVal (eOp gPow (hVal (eC (.int 10))) (hVal (eC (.int 11))))) (hVal (eC (.int 7))))) (aCons (hVal (eC (.int 400))) aNil)))))) mNil)) (mP (eOp gAdd (hVal (eC (.int 2))) (hVal (eRef F__law_draw 1 (mP (eOp gPow (hVal (eC (.int 10))) (hVal (eC (.int 6)))) mNil)))) mNil)))
  (sRet (eFn F__law_like (mP (eFn F_great_count (mP (eVar 4) (mP (eVar 6) (mP (eVar 7) mNil)))) (mP (eFn F__law_great (mP (eVar 4) (mP (eVar 6) (mP (eVar 7) mNil)))) mNil))))))))))))
def F_law : List D → Option D := runV 8 s_law
theorem body_law {P : Program} {ww : World} {K : PySem.W.Frag} {mg : Str → Option Value} {base : Heap} {f : Addr} (B : Bl mg) (G__law_hand : Gal P ww K mg base 1 "_law_hand" (spO 1 K F__law_hand)) (G__law_rods : Gal P ww K mg base 3 "_law_rods" (spR 1 K F__law_rods)) (G__law_are_sums_right : Gal P ww K mg base 7 "_law_are_sums_right" (spR 3 K F__law_are_sums_right)) (G__law_draw : Gal P ww K mg base 1 "_law_draw" (spR 2 K F__law_draw)) (G__law_counts : Gal P ww K mg base 1 "_law_counts" (spV 2 K F__law_counts)) (G__law_is_row_right : Gal P ww K mg base 6 "_law_is_row_right" (spR 3 K F__law_is_row_right)) (G__law_any : Gal P ww K mg base 2 "_law_any" (spR 2 K F__law_any)) (G__law_like : Gal P ww K mg base 1 "_law_like" (spV 2 K F__law_like)) (G__law_great : Gal P ww K mg base 2 "_law_great" (spV 3 K F__law_great)) (G_great_count : Gal P ww K mg base 5 "great_count" (spV 3 K F_great_count)) : Body P ww K mg base N_law 7 "law" st_law f s_law := by
  intro S cdv A outer s H E hr hG
  have nd : N_law.Nodup := sc_law.nd
  have G__law_hand := G__law_hand.mono (k' := 7) (by decide)
  have G__law_rods := G__law_rods.mono (k' := 7) (by decide)
  have G__law_draw := G__law_draw.mono (k' := 7) (by decide)
  have G__law_counts := G__law_counts.mono (k' := 7) (by decide)
  have G__law_is_row_right := G__law_is_row_right.mono (k' := 7) (by decide)
  have G__law_any := G__law_any.mono (k' := 7) (by decide)
  have G__law_like := G__law_like.mono (k' := 7) (by decide)
  have G__law_great := G__law_great.mono (k' := 7) (by decide)
  have G_great_count := G_great_count.mono (k' := 7) (by decide)
  exact (pssd_cons (psd_setO (i := 1) nd rfl (.inl rfl) (po_gal G__law_hand hG hr (by rfl) (pdm_p (pd_var (pv 0)) pdm_nil) (mlen_p mlen_nil)))
  (pssd_cons (psd_set (i := 2) nd rfl (.inl rfl) (pd_ref G__law_rods hG hr (by rfl) (pv 1) pdm_nil mlen_nil))
  (pssd_cons (psd_if (pdt_not (pdt_val (pd_ref G__law_are_sums_right hG hr (by rfl) (pv 1) (pdm_p (pd_var (pv 2)) (pdm_p (pd_op r_add d_add (ph_val (pd_int pe_int)) (ph_val (pd_ref G__law_draw hG hr (by rfl) (pv 1) (pdm_p (pd_int pe_int) pdm_nil) (mlen_p mlen_nil)))) pdm_nil)) (mlen_p (mlen_p mlen_nil))))) (pssd_one (psd_ret (pd_bl pe_bl))) pssd_nil)
  (pssd_cons (psd_set (i := 3) nd rfl (.inl rfl) (pd_op r_add d_add (ph_val (pd_int pe_int)) (ph_val (pd_ref G__law_draw hG hr (by rfl) (pv 1) (pdm_p (pd_int pe_int) pdm_nil) (mlen_p mlen_nil)))))
  (pssd_cons (psd_if (pdt_bool (pdw_and (pdt_cmp op_gt d_gt (ph_val (pd_ix ix_seq d_ix (ph_val (pd_gal G__law_counts hG hr (by rfl) (pdm_p (pd_var (pv 2)) (pdm_p (pd_var (pv 3)) pdm_nil)) (mlen_p (mlen_p mlen_nil)))) (ph_name (pv 3)) (fun _ _ => rfl))) (ph_val (pd_int pe_int)) (nomark _)) (pdw_and1 (pdt_not (pdt_val (pd_ref G__law_is_row_right hG hr (by rfl) (pv 1) (pdm_p (pd_var (pv 2)) (pdm_p (pd_var (pv 3)) pdm_nil)) (mlen_p (mlen_p mlen_nil)))))))) (pssd_one (psd_ret (pd_bl pe_bl))) pssd_nil)
  (pssd_cons (psd_setLc (i := 4) rfl nd rfl rfl (sw_true rfl rfl rfl rfl) (pdi_seq (pd_var (pv 2))) (own := [("rod", 5)]) (by exact blkOk_by (N := N_law) (sc := defScope st_law) (own := [("rod", 5)]) (by decide +kernel)) ⟨fun S s H C cl fp => (pgd_name (i := 5) nd rfl (.inl rfl)), fun S s H C cl fp => (ptd_one (pdt_cmp op_le d_le (ph_val (pd_ix ix_seq d_ix (ph_name (pv 5)) (ph_val (pd_int pe_int)) (fun _ _ => rfl))) (ph_val (pd_int pe_int)) (nomark _))), fun S s H C cl fp => (pd_var (pv 5))⟩ (by decide) (tg_name (by decide)))
  (pssd_cons (psd_if (pdt_cmp (r_eq hr.units) d_eq (ph_name (pv 4)) (ph_val (pd_own (po_lst pda_nil))) (nomark _)) (pssd_one (psd_ret (pd_bl pe_bl))) pssd_nil)
  (pssd_cons (psd_par (i := 6) (j := 7) rfl nd rfl rfl (by decide) rfl rfl (pdm_p (pd_ref G__law_any hG hr (by rfl) (pv 1) (pdm_p (pd_own (po_lst (pda_cons (ph_val (pd_op op_pow d_pow (ph_val (pd_int pe_int)) (ph_val (pd_int pe_int)))) (pda_cons (ph_val (pd_op op_sub d_sub (ph_val (pd_op op_pow d_pow (ph_val (pd_int pe_int)) (ph_val (pd_int pe_int)))) (ph_val (pd_int pe_int)))) (pda_cons (ph_val (pd_op r_add d_add (ph_val (pd_op op_pow d_pow (ph_val (pd_int pe_int)) (ph_val (pd_int pe_int)))) (ph_val (pd_int pe_int)))) (pda_cons (ph_val (pd_int pe_int)) pda_nil)))))) pdm_nil) (mlen_p mlen_nil)) (pdm_p (pd_op r_add d_add (ph_val (pd_int pe_int)) (ph_val (pd_ref G__law_draw hG hr (by rfl) (pv 1) (pdm_p (pd_op op_pow d_pow (ph_val (pd_int pe_int)) (ph_val (pd_int pe_int))) pdm_nil) (mlen_p mlen_nil)))) pdm_nil)) (by rfl))
  (pssd_one (psd_ret (pd_gal G__law_like hG hr (by rfl) (pdm_p (pd_gal G_great_count hG hr (by rfl) (pdm_p (pd_var (pv 4)) (pdm_p (pd_var (pv 6)) (pdm_p (pd_var (pv 7)) pdm_nil))) (mlen_p (mlen_p (mlen_p mlen_nil)))) (pdm_p (pd_gal G__law_great hG hr (by rfl) (pdm_p (pd_var (pv 4)) (pdm_p (pd_var (pv 6)) (pdm_p (pd_var (pv 7)) pdm_nil))) (mlen_p (mlen_p (mlen_p mlen_nil)))) pdm_nil)) (mlen_p (mlen_p mlen_nil)))))))))))))
theorem gal_law {P : Program} {ww : World} {K : PySem.W.Frag} {mg : Str → Option Value} {base : Heap} {f : Addr} {fd : FuncData} (F : L2.Fun K "law" "law" st_law f fd) (hm : mg "law" = some (.ref f)) (b : Binds K fd ["script"] []) (B : Bl mg) (G__law_hand : Gal P ww K mg base 1 "_law_hand" (spO 1 K F__law_hand)) (G__law_rods : Gal P ww K mg base 3 "_law_rods" (spR 1 K F__law_rods)) (G__law_are_sums_right : Gal P ww K mg base 7 "_law_are_sums_right" (spR 3 K F__law_are_sums_right)) (G__law_draw : Gal P ww K mg base 1 "_law_draw" (spR 2 K F__law_draw)) (G__law_counts : Gal P ww K mg base 1 "_law_counts" (spV 2 K F__law_counts)) (G__law_is_row_right : Gal P ww K mg base 6 "_law_is_row_right" (spR 3 K F__law_is_row_right)) (G__law_any : Gal P ww K mg base 2 "_law_any" (spR 2 K F__law_any)) (G__law_like : Gal P ww K mg base 1 "_law_like" (spV 2 K F__law_like)) (G__law_great : Gal P ww K mg base 2 "_law_great" (spV 3 K F__law_great)) (G_great_count : Gal P ww K mg base 5 "great_count" (spV 3 K F_great_count)) : Gal P ww K mg base 8 "law" (spV 1 K F_law) :=
  galV F hm b sc_law (body_law B G__law_hand G__law_rods G__law_are_sums_right G__law_draw G__law_counts G__law_is_row_right G__law_any G__law_like G__law_great G_great_count)
end K15

namespace K15
open PySem PySem.Spec PyProof.Rows L2 DL
theorem kb_ii : kitB "int" "int" = some true := by decide +kernel
theorem kb_ib : kitB "int" "bool" = some false := by decide +kernel
theorem kb_tt : kitB "tuple" "tuple" = some true := by decide +kernel
theorem kb_lt : kitB "list" "tuple" = some false := by decide +kernel
theorem kb_ll : kitAnyB "list" ["list", "tuple"] = some true := by decide +kernel
theorem kb_tl : kitAnyB "tuple" ["list", "tuple"] = some true := by decide +kernel
theorem v_is_integer (i : Int) : F_is_integer [.int i] = some (.bl true) := by
  simp [F_is_integer, s_is_integer, gIsi, tyD, kb_ii, kb_ib, sSeq, sDrop, sIf, sRet, sRetO, sRetN, sSet, sSetO, sPar, sApp, sPut, sAug, sNext, sBreak, eFn, oFn, eRef, eArgs, eArgs.dsOf, mP, mO, mNil, eVar, eC, eOp, oOp, eCall, oCall, eOwn, hVal, hName, Hd.d, slotD, aCons, aNil, hds, vals, oLst, eTup, eIf, eAnd, eOr, eNot, eNeg, gNeg, eIsN, eChain, bE, bAnd, bOr, bNot, bYes, eSl, oSl, pSo, pNo, iSeq, iRange, iEnumD, iZipD, Ct.d, Sl.d, ownC, putC, isBor, setN, runV, runR, runO, env0, headB, txN, txT, txsCons, txsNil, List.map, List.length, List.replicate, List.append, addI, subI, leI, ltI, gtI, geI, eqI, neI, g1, lenL, lenT, intI]
theorem v_is_within (i a b : Int) : F_is_within [.int i, .int a, .int b] = some (.bl (decide (a ≤ i) && decide (i ≤ b))) := by
  simp [F_is_within, s_is_within, v_is_integer, sSeq, sDrop, sIf, sRet, sRetO, sRetN, sSet, sSetO, sPar, sApp, sPut, sAug, sNext, sBreak, eFn, oFn, eRef, eArgs, eArgs.dsOf, mP, mO, mNil, eVar, eC, eOp, oOp, eCall, oCall, eOwn, hVal, hName, Hd.d, slotD, aCons, aNil, hds, vals, oLst, eTup, eIf, eAnd, eOr, eNot, eNeg, gNeg, eIsN, eChain, bE, bAnd, bOr, bNot, bYes, eSl, oSl, pSo, pNo, iSeq, iRange, iEnumD, iZipD, Ct.d, Sl.d, ownC, putC, isBor, setN, runV, runR, runO, env0, headB, txN, txT, txsCons, txsNil, List.map, List.length, List.replicate, List.append, addI, subI, leI, ltI, gtI, geI, eqI, neI, g1, lenL, lenT, intI]
  by_cases h : a ≤ i <;> simp [h]
theorem v_check_number {i a b : Int} (h : a ≤ i) (h' : i ≤ b) : F_check_number [.int i, .int a, .int b] = some .non := by
  simp [F_check_number, s_check_number, v_is_within, h, h', sSeq, sDrop, sIf, sRet, sRetO, sRetN, sSet, sSetO, sPar, sApp, sPut, sAug, sNext, sBreak, eFn, oFn, eRef, eArgs, eArgs.dsOf, mP, mO, mNil, eVar, eC, eOp, oOp, eCall, oCall, eOwn, hVal, hName, Hd.d, slotD, aCons, aNil, hds, vals, oLst, eTup, eIf, eAnd, eOr, eNot, eNeg, gNeg, eIsN, eChain, bE, bAnd, bOr, bNot, bYes, eSl, oSl, pSo, pNo, iSeq, iRange, iEnumD, iZipD, Ct.d, Sl.d, ownC, putC, isBor, setN, runV, runR, runO, env0, headB, txN, txT, txsCons, txsNil, List.map, List.length, List.replicate, List.append, addI, subI, leI, ltI, gtI, geI, eqI, neI, g1, lenL, lenT, intI]
theorem v_is_row_l (xs : List D) : F_is_row [.lst xs] = some (.bl true) := by
  simp [F_is_row, s_is_row, eIsi2, tyD, kb_ll, sSeq, sDrop, sIf, sRet, sRetO, sRetN, sSet, sSetO, sPar, sApp, sPut, sAug, sNext, sBreak, eFn, oFn, eRef, eArgs, eArgs.dsOf, mP, mO, mNil, eVar, eC, eOp, oOp, eCall, oCall, eOwn, hVal, hName, Hd.d, slotD, aCons, aNil, hds, vals, oLst, eTup, eIf, eAnd, eOr, eNot, eNeg, gNeg, eIsN, eChain, bE, bAnd, bOr, bNot, bYes, eSl, oSl, pSo, pNo, iSeq, iRange, iEnumD, iZipD, Ct.d, Sl.d, ownC, putC, isBor, setN, runV, runR, runO, env0, headB, txN, txT, txsCons, txsNil, List.map, List.length, List.replicate, List.append, addI, subI, leI, ltI, gtI, geI, eqI, neI, g1, lenL, lenT, intI]
theorem v_is_row_t (xs : List D) : F_is_row [.tup xs] = some (.bl true) := by
  simp [F_is_row, s_is_row, eIsi2, tyD, kb_tl, sSeq, sDrop, sIf, sRet, sRetO, sRetN, sSet, sSetO, sPar, sApp, sPut, sAug, sNext, sBreak, eFn, oFn, eRef, eArgs, eArgs.dsOf, mP, mO, mNil, eVar, eC, eOp, oOp, eCall, oCall, eOwn, hVal, hName, Hd.d, slotD, aCons, aNil, hds, vals, oLst, eTup, eIf, eAnd, eOr, eNot, eNeg, gNeg, eIsN, eChain, bE, bAnd, bOr, bNot, bYes, eSl, oSl, pSo, pNo, iSeq, iRange, iEnumD, iZipD, Ct.d, Sl.d, ownC, putC, isBor, setN, runV, runR, runO, env0, headB, txN, txT, txsCons, txsNil, List.map, List.length, List.replicate, List.append, addI, subI, leI, ltI, gtI, geI, eqI, neI, g1, lenL, lenT, intI]

/-! ### rods -/
abbrev Rods := List (Int × Int)
def tupI (p : Int × Int) : D := .tup [.int p.1, .int p.2]
def dR (R : Rods) : D := .lst (R.map tupI)
structure V (R : Rods) : Prop where
  ne : R ≠ []
  len : R.length ≤ 8
  lo : ∀ p ∈ R, 1 ≤ p.1 ∧ p.1 ≤ 60 ∧ 1 ≤ p.2 ∧ p.2 ≤ 9
  inc : R.Pairwise (·.1 < ·.1)
theorem zip_drop {R : Rods} (h : R.Pairwise (·.1 < ·.1)) : ∀ q ∈ R.zip (R.drop 1), q.1.1 < q.2.1 := by
  induction h with
  | nil => intro q hq; simp at hq
  | @cons a l ha hp ih =>
    intro q hq
    cases l with
    | nil => simp at hq
    | cons b r =>
      have : q = (a, b) ∨ q ∈ (b :: r).zip ((b :: r).drop 1) := by simpa using hq
      rcases this with rfl | hq
      · exact ha b List.mem_cons_self
      · exact ih q hq
theorem mem_mid {α : Type} {R p q : List α} {x : α} (e : [] ++ R = p ++ x :: q) : x ∈ R := by
  have : x ∈ p ++ x :: q := by simp
  rw [← e] at this; simpa using this
theorem t0 (p : Int × Int) : gIx (tupI p) (.int 0) = some (.int p.1) := rfl
theorem t1 (p : Int × Int) : gIx (tupI p) (.int 1) = some (.int p.2) := rfl
theorem dR_len (R : Rods) : dLen (dR R) = some (.int R.length) := by simp [dLen, dR]
theorem v_check_rods {R : Rods} (h : V R) : F_check_rods [dR R] = some .non := by
  have hl1 : 1 ≤ R.length := by have := h.ne; cases R <;> simp at *
  have hl2 := h.len
  have e5 : F_is_row [dR R] = some (.bl true) := v_is_row_l _
  have h1 : decide ((1 : Int) ≤ (R.length : Int)) = true := decide_eq_true (by omega)
  have h8 : decide ((R.length : Int) ≤ 8) = true := decide_eq_true (by omega)
  refine runV_wp ?_
  show Wp _ [some (.p (dR R)), none, none, none] _
  refine wp_seq (wp_f (δ1 := [some (.p (dR R)), none, none, none]) (by simp [e5, dR_len, h1, h8, sSeq, sDrop, sIf, sRet, sRetO, sRetN, sSet, sSetO, sPar, sApp, sPut, sAug, sNext, sBreak, eFn, oFn, eRef, eArgs, eArgs.dsOf, mP, mO, mNil, eVar, eC, eOp, oOp, eCall, oCall, eOwn, hVal, hName, Hd.d, slotD, aCons, aNil, hds, vals, oLst, eTup, eIf, eAnd, eOr, eNot, eNeg, gNeg, eIsN, eChain, bE, bAnd, bOr, bNot, bYes, eSl, oSl, pSo, pNo, iSeq, iRange, iEnumD, iZipD, Ct.d, Sl.d, ownC, putC, isBor, setN, runV, runR, runO, env0, headB, txN, txT, txsCons, txsNil, List.map, List.length, List.replicate, List.append, addI, subI, leI, ltI, gtI, geI, eqI, neI, g1, lenL, lenT, intI]) (wp_next ?_))
  refine wp_seq (wp_for tupI (fun _ δ => ∃ z : Option D, δ = [some (.p (dR R)), z.map .p, none, none]) R rfl ⟨none, rfl⟩ ?_ ?_)
  · rintro p x q δ e ⟨z, rfl⟩
    have hx := h.lo x (by rw [e]; simp)
    have r0 : F_is_row [tupI x] = some (.bl true) := v_is_row_t _
    have e4 : dLen (tupI x) = some (.int 2) := rfl
    refine ⟨[some (.p (dR R)), some (.p (tupI x)), none, none], by cases z <;> simp [sSeq, sDrop, sIf, sRet, sRetO, sRetN, sSet, sSetO, sPar, sApp, sPut, sAug, sNext, sBreak, eFn, oFn, eRef, eArgs, eArgs.dsOf, mP, mO, mNil, eVar, eC, eOp, oOp, eCall, oCall, eOwn, hVal, hName, Hd.d, slotD, aCons, aNil, hds, vals, oLst, eTup, eIf, eAnd, eOr, eNot, eNeg, gNeg, eIsN, eChain, bE, bAnd, bOr, bNot, bYes, eSl, oSl, pSo, pNo, iSeq, iRange, iEnumD, iZipD, Ct.d, Sl.d, ownC, putC, isBor, setN, runV, runR, runO, env0, headB, txN, txT, txsCons, txsNil, List.map, List.length, List.replicate, List.append, addI, subI, leI, ltI, gtI, geI, eqI, neI, g1, lenL, lenT, intI], ?_⟩
    exact wp_f (δ1 := [some (.p (dR R)), some (.p (tupI x)), none, none]) (by simp [r0, t0, t1, e4, v_is_within, hx, sSeq, sDrop, sIf, sRet, sRetO, sRetN, sSet, sSetO, sPar, sApp, sPut, sAug, sNext, sBreak, eFn, oFn, eRef, eArgs, eArgs.dsOf, mP, mO, mNil, eVar, eC, eOp, oOp, eCall, oCall, eOwn, hVal, hName, Hd.d, slotD, aCons, aNil, hds, vals, oLst, eTup, eIf, eAnd, eOr, eNot, eNeg, gNeg, eIsN, eChain, bE, bAnd, bOr, bNot, bYes, eSl, oSl, pSo, pNo, iSeq, iRange, iEnumD, iZipD, Ct.d, Sl.d, ownC, putC, isBor, setN, runV, runR, runO, env0, headB, txN, txT, txsCons, txsNil, List.map, List.length, List.replicate, List.append, addI, subI, leI, ltI, gtI, geI, eqI, neI, g1, lenL, lenT, intI]) (wp_next ⟨_, .inl rfl, some (tupI x), rfl⟩)
  · rintro δ' ⟨z, rfl⟩
    have comp : oLc (iZipD (eVar 0) (eSl gSl (hName 0) (pSo (eC (.int 1))) pNo)) (txT 2 (txsCons (txN 2) (txsCons (txN 3) txsNil))) bYes (eOp gLt (hVal (eOp gIx (hName 2) (hVal (eC (.int 0))))) (hVal (eOp gIx (hName 3) (hVal (eC (.int 0)))))) [2, 3] [some (.p (dR R)), z.map .p, none, none]
        = some (.lst (((R.zip (R.drop 1)).map fun _ => true).map .bl), [some (.p (dR R)), z.map .p, none, none]) := by
      rw [List.map_map, ← fmap_some]
      refine oLc_pure (fun q => .tup [tupI q.1, tupI q.2]) _ (R.zip (R.drop 1)) ?_ rfl ?_ rfl ?_ ?_
      · simp [sSeq, sDrop, sIf, sRet, sRetO, sRetN, sSet, sSetO, sPar, sApp, sPut, sAug, sNext, sBreak, eFn, oFn, eRef, eArgs, eArgs.dsOf, mP, mO, mNil, eVar, eC, eOp, oOp, eCall, oCall, eOwn, hVal, hName, Hd.d, slotD, aCons, aNil, hds, vals, oLst, eTup, eIf, eAnd, eOr, eNot, eNeg, gNeg, eIsN, eChain, bE, bAnd, bOr, bNot, bYes, eSl, oSl, pSo, pNo, iSeq, iRange, iEnumD, iZipD, Ct.d, Sl.d, ownC, putC, isBor, setN, runV, runR, runO, env0, headB, txN, txT, txsCons, txsNil, List.map, List.length, List.replicate, List.append, addI, subI, leI, ltI, gtI, geI, eqI, neI, g1, lenL, lenT, intI, dR, gSl, cut_from1, zip2, lstD]
        rw [← List.drop_one, ← List.drop_one, ← List.map_drop, zipD_map]
      · cases z <;> simp [noOwn]
      · intro q hq
        have hlt := zip_drop h.inc q hq
        refine ⟨[some (.p (dR R)), z.map .p, some (.p (tupI q.1)), some (.p (tupI q.2))], ?_, .inr ⟨_, [some (.p (dR R)), z.map .p, some (.p (tupI q.1)), some (.p (tupI q.2))], [some (.p (dR R)), z.map .p, some (.p (tupI q.1)), some (.p (tupI q.2))], rfl, rfl, ?_, rfl⟩⟩
        · cases z <;> simp [sSeq, sDrop, sIf, sRet, sRetO, sRetN, sSet, sSetO, sPar, sApp, sPut, sAug, sNext, sBreak, eFn, oFn, eRef, eArgs, eArgs.dsOf, mP, mO, mNil, eVar, eC, eOp, oOp, eCall, oCall, eOwn, hVal, hName, Hd.d, slotD, aCons, aNil, hds, vals, oLst, eTup, eIf, eAnd, eOr, eNot, eNeg, gNeg, eIsN, eChain, bE, bAnd, bOr, bNot, bYes, eSl, oSl, pSo, pNo, iSeq, iRange, iEnumD, iZipD, Ct.d, Sl.d, ownC, putC, isBor, setN, runV, runR, runO, env0, headB, txN, txT, txsCons, txsNil, List.map, List.length, List.replicate, List.append, addI, subI, leI, ltI, gtI, geI, eqI, neI, g1, lenL, lenT, intI]
        · simp [sSeq, sDrop, sIf, sRet, sRetO, sRetN, sSet, sSetO, sPar, sApp, sPut, sAug, sNext, sBreak, eFn, oFn, eRef, eArgs, eArgs.dsOf, mP, mO, mNil, eVar, eC, eOp, oOp, eCall, oCall, eOwn, hVal, hName, Hd.d, slotD, aCons, aNil, hds, vals, oLst, eTup, eIf, eAnd, eOr, eNot, eNeg, gNeg, eIsN, eChain, bE, bAnd, bOr, bNot, bYes, eSl, oSl, pSo, pNo, iSeq, iRange, iEnumD, iZipD, Ct.d, Sl.d, ownC, putC, isBor, setN, runV, runR, runO, env0, headB, txN, txT, txsCons, txsNil, List.map, List.length, List.replicate, List.append, addI, subI, leI, ltI, gtI, geI, eqI, neI, g1, lenL, lenT, intI, t0, hlt]
      · simp [lim]; omega
    have all := all_bls ((R.zip (R.drop 1)).map fun _ => true)
    have all2 : (((R.zip (R.drop 1)).map fun _ => true).all id) = true := by simp
    rw [all2] at all
    refine wp_f (δ1 := [some (.p (dR R)), z.map .p, none, none]) ?_ (wp_next (.inr ⟨rfl, _, rfl⟩))
    have e0 : ∀ (o : OX) (δ : DEnv) (bs : List D), o δ = some (.lst bs, δ) → g1 dAll [.lst bs] = some (.bl true) → bNot (bE (eCall (g1 dAll) (aCons (hVal (eOwn o)) aNil))) δ = some (false, δ) := fun o δ bs h1 h2 => by
      simp [bNot, bE, eCall, aCons, hVal, eOwn, h1, aNil, hds, Hd.d, Ct.d, h2]
    exact e0 _ _ _ comp all

/-! ### how many rows -/
/-- the sum over the rods that fit -/
def fit (R : Rods) (n : Int) (f : Int × Int → Int) : List Int := R.filterMap fun p => if p.1 ≤ n then some (f p) else none
def stepC (R : Rods) (cs : List Int) (n : Int) : Int := (fit R n fun p => p.2 * atZ cs (n - p.1)).sum
def cl (R : Rods) : Nat → List Int
  | 0 => [1]
  | n + 1 => cl R n ++ [stepC R (cl R n) (n + 1)]
theorem cl_succ (R : Rods) (n : Nat) : cl R (n + 1) = cl R n ++ [stepC R (cl R n) (n + 1)] := rfl
theorem p72 {a b : Nat} (h : a ≤ b) : (72 : Int) ^ a ≤ 72 ^ b := by exact_mod_cast Nat.pow_le_pow_right (show 0 < 72 by decide) h
theorem cl_len (R : Rods) : ∀ n, (cl R n).length = n + 1
  | 0 => rfl
  | n + 1 => by unfold cl; rw [List.length_append, cl_len R n]; rfl
theorem atZ_app {xs ys : List Int} {i : Int} (h0 : 0 ≤ i) (h : i < xs.length) : atZ (xs ++ ys) i = atZ xs i := by
  unfold atZ
  rw [List.getD_eq_getElem?_getD, List.getD_eq_getElem?_getD, List.getElem?_append_left (by omega)]
theorem atZ_last {xs : List Int} {y : Int} : atZ (xs ++ [y]) xs.length = y := by
  unfold atZ
  rw [List.getD_eq_getElem?_getD]
  simp
theorem cl_at (R : Rods) {n m : Nat} (h : m ≤ n) : ∀ {i : Int}, 0 ≤ i → i ≤ m → atZ (cl R n) i = atZ (cl R m) i := by
  induction n with
  | zero => intro i _ _; have : m = 0 := by omega
            subst this; rfl
  | succ n ih =>
    intro i h0 hi
    rcases Nat.lt_or_ge m (n + 1) with lt | ge
    · rw [cl_succ, atZ_app h0 (by rw [cl_len]; omega)]
      exact ih (by omega) h0 hi
    · have : m = n + 1 := by omega
      subst this; rfl
theorem sum_le {xs : List Int} {B : Int} (h : ∀ x ∈ xs, 0 ≤ x ∧ x ≤ B) : 0 ≤ xs.sum ∧ xs.sum ≤ xs.length * B := by
  induction xs with
  | nil => simp
  | cons x xs ih =>
    have h1 := h x List.mem_cons_self
    have h2 := ih fun y hy => h y (List.mem_cons_of_mem _ hy)
    rw [List.sum_cons, List.length_cons]
    have e : ((xs.length + 1 : Nat) : Int) * B = xs.length * B + B := by
      rw [Int.natCast_add, Int.add_mul]; simp
    omega
theorem fit_len (R : Rods) (n : Int) (f : Int × Int → Int) : (fit R n f).length ≤ R.length := List.length_filterMap_le _ _
theorem fit_mem {R : Rods} {n : Int} {f : Int × Int → Int} {x : Int} (h : x ∈ fit R n f) : ∃ p ∈ R, p.1 ≤ n ∧ x = f p := by
  obtain ⟨p, hp, e⟩ := List.mem_filterMap.mp h
  split at e
  · rename_i c; cases e; exact ⟨p, hp, c, rfl⟩
  · cases e
theorem cl_bound {R : Rods} (h : V R) : ∀ (n : Nat) (i : Int), 0 ≤ i → i ≤ n → 0 ≤ atZ (cl R n) i ∧ atZ (cl R n) i ≤ 72 ^ i.toNat := by
  intro n
  induction n with
  | zero => intro i h0 hi; have : i = 0 := by omega
            subst this; exact ⟨by show (0 : Int) ≤ 1; decide, by show (1 : Int) ≤ 1; decide⟩
  | succ n ih =>
    intro i h0 hi
    rcases Int.lt_or_le i (n + 1) with lt | ge
    · rw [cl_succ, atZ_app h0 (by rw [cl_len]; omega)]
      exact ih i h0 (by omega)
    · have e : i = ((n + 1 : Nat) : Int) := by omega
      subst e
      have e2 : atZ (cl R (n + 1)) ((n + 1 : Nat) : Int) = stepC R (cl R n) (n + 1) := by
        rw [cl_succ]
        have := atZ_last (xs := cl R n) (y := stepC R (cl R n) (n + 1))
        rw [cl_len] at this
        exact this
      rw [e2]
      have b : ∀ x ∈ fit R (n + 1) (fun p => p.2 * atZ (cl R n) (n + 1 - p.1)), 0 ≤ x ∧ x ≤ 9 * 72 ^ n := fun x hx => by
        obtain ⟨p, hp, h1, rfl⟩ := fit_mem hx
        obtain ⟨l1, l2, l3, l4⟩ := h.lo p hp
        obtain ⟨a1, a2⟩ := ih (n + 1 - p.1) (by omega) (by omega)
        have a3 : (72 : Int) ^ ((n : Int) + 1 - p.1).toNat ≤ 72 ^ n := p72 (by omega)
        refine ⟨Int.mul_nonneg (by omega) a1, Int.le_trans (Int.mul_le_mul_of_nonneg_right l4 a1) (Int.mul_le_mul_of_nonneg_left (Int.le_trans a2 a3) (by decide))⟩
      obtain ⟨s1, s2⟩ := sum_le b
      refine ⟨s1, Int.le_trans s2 ?_⟩
      have l : ((fit R (n + 1) (fun p => p.2 * atZ (cl R n) (n + 1 - p.1))).length : Int) ≤ 8 := by have := fit_len R (n + 1) (fun p => p.2 * atZ (cl R n) (n + 1 - p.1)); have := h.len; omega
      have p0 : (0 : Int) ≤ 9 * 72 ^ n := Int.mul_nonneg (by decide) (Int.pow_nonneg (by decide))
      refine Int.le_trans (Int.mul_le_mul_of_nonneg_right l p0) ?_
      rw [show ((n + 1 : Nat) : Int).toNat = n + 1 by omega, Int.pow_succ]
      omega

end K15

namespace K15
open PySem PySem.Spec PyProof.Rows L2 DL
/-- a comprehension over rods in which ints come out -/
theorem lc_rods {R : Rods} (h : V R) {ix : IX} {bx : BX} {ev : EX} {a b : Nat} {δ0 δ : DEnv} (t : Int × Int → Option Int) (hi : ix δ0 = some (R.map tupI, δ)) (hw : wipeD δ [a, b] = δ) (hno : noOwn δ [a, b] = true) (hb : backD δ δ [a, b] = δ) (hba : isBor δ a = false) (hbb : ∀ d, isBor (δ.set a d) b = false)
    (hs : ∀ p ∈ R, let δ2 := (δ.set a (some (.p (.int p.1)))).set b (some (.p (.int p.2))); wipeD δ2 [a, b] = δ ∧ ((t p = none ∧ bx δ2 = some (false, δ2)) ∨ ∃ z, t p = some z ∧ bx δ2 = some (true, δ2) ∧ ev δ2 = some (.int z, δ2))) :
    oLc ix (txT 2 (txsCons (txN a) (txsCons (txN b) txsNil))) bx ev [a, b] δ0 = some (.lst (iD (R.filterMap t)), δ) := by
  rw [← fmap_int]
  refine oLc_pure tupI _ R hi hw hno hb (fun p hp => ?_) (by have := h.len; simp [lim]; omega)
  obtain ⟨w, q⟩ := hs p hp
  refine ⟨(δ.set a (some (.p (.int p.1)))).set b (some (.p (.int p.2))), ?_, ?_⟩
  · simp [tupI, txT, txsCons, txN, txsNil, hba, hbb]
  · rcases q with ⟨q1, q2⟩ | ⟨z, q1, q2, q3⟩
    · exact .inl ⟨by rw [q1]; rfl, _, q2, w⟩
    · exact .inr ⟨_, _, _, by rw [q1]; rfl, q2, q3, w⟩
theorem e_sum {o : OX} {δ δ1 : DEnv} {xs : List Int} (h : o δ = some (.lst (iD xs), δ1)) : eCall (g1 dSum) (aCons (hVal (eOwn o)) aNil) δ = some (.int xs.sum, δ1) := by
  simp [eCall, aCons, hVal, eOwn, h, aNil, hds, Hd.d, Ct.d, sumI]
theorem small72 {i : Int} {k : Nat} (h0 : 0 ≤ i) (h : i ≤ 72 ^ k) (hk : k ≤ 300) : small i = true := by
  refine small_le (k := 2000) h0 (Int.lt_of_le_of_lt h ?_) (Nat.le_refl _)
  have : (72 : Int) ^ k ≤ 72 ^ 300 := p72 hk
  exact Int.lt_of_le_of_lt this (by decide +kernel)
abbrev lcCounts : OX := oLc (iSeq (eVar 0)) (txT 2 (txsCons (txN 4) (txsCons (txN 5) txsNil))) (bE (eOp gLe (hName 4) (hName 3))) (eOp gMul (hName 5) (hVal (eOp gIx (hName 2) (hVal (eOp DL.gSub (hName 3) (hName 4)))))) [4, 5]
theorem lc_counts {R : Rods} (h : V R) {i : Nat} (hi : i ≤ 299) (n : D) : lcCounts [some (.p (dR R)), some (.p n), some (.o (.lst (iD (cl R i)))), some (.p (.int (1 + (i : Int)))), none, none] =
    some (.lst (iD (fit R (1 + i) fun p => p.2 * atZ (cl R i) (1 + i - p.1))), [some (.p (dR R)), some (.p n), some (.o (.lst (iD (cl R i)))), some (.p (.int (1 + (i : Int)))), none, none]) := by
  refine lc_rods h _ rfl rfl rfl rfl rfl (fun d => rfl) fun p hp => ?_
  obtain ⟨l1, l2, l3, l4⟩ := h.lo p hp
  refine ⟨rfl, ?_⟩
  by_cases c : p.1 ≤ 1 + (i : Int)
  · refine .inr ⟨_, if_pos c, by simp [sSeq, sDrop, sIf, sRet, sRetO, sRetN, sSet, sSetO, sPar, sApp, sPut, sAug, sNext, sBreak, eFn, oFn, eRef, eArgs, eArgs.dsOf, mP, mO, mNil, eVar, eC, eOp, oOp, eCall, oCall, eOwn, hVal, hName, Hd.d, slotD, aCons, aNil, hds, vals, oLst, eTup, eIf, eAnd, eOr, eNot, eNeg, gNeg, eIsN, eChain, bE, bAnd, bOr, bNot, bYes, eSl, oSl, pSo, pNo, iSeq, iRange, iEnumD, iZipD, Ct.d, Sl.d, ownC, putC, isBor, setN, runV, runR, runO, env0, headB, txN, txT, txsCons, txsNil, List.map, List.length, List.replicate, List.append, addI, subI, leI, ltI, gtI, geI, eqI, neI, g1, lenL, lenT, intI, c], ?_⟩
    obtain ⟨b1, b2⟩ := cl_bound h i (1 + i - p.1) (by omega) (by omega)
    have x1 : gIx (.lst (iD (cl R i))) (.int (1 + i - p.1)) = some (.int (atZ (cl R i) (1 + i - p.1))) := ixL (by omega) (by rw [cl_len]; omega)
    have x2 := mulI (small_le (k := 8) (a := p.2) (by omega) (by omega) (by decide)) (small72 b1 b2 (by omega))
    simp [sSeq, sDrop, sIf, sRet, sRetO, sRetN, sSet, sSetO, sPar, sApp, sPut, sAug, sNext, sBreak, eFn, oFn, eRef, eArgs, eArgs.dsOf, mP, mO, mNil, eVar, eC, eOp, oOp, eCall, oCall, eOwn, hVal, hName, Hd.d, slotD, aCons, aNil, hds, vals, oLst, eTup, eIf, eAnd, eOr, eNot, eNeg, gNeg, eIsN, eChain, bE, bAnd, bOr, bNot, bYes, eSl, oSl, pSo, pNo, iSeq, iRange, iEnumD, iZipD, Ct.d, Sl.d, ownC, putC, isBor, setN, runV, runR, runO, env0, headB, txN, txT, txsCons, txsNil, List.map, List.length, List.replicate, List.append, addI, subI, leI, ltI, gtI, geI, eqI, neI, g1, lenL, lenT, intI, x1, x2]
  · exact .inl ⟨if_neg c, by simp [sSeq, sDrop, sIf, sRet, sRetO, sRetN, sSet, sSetO, sPar, sApp, sPut, sAug, sNext, sBreak, eFn, oFn, eRef, eArgs, eArgs.dsOf, mP, mO, mNil, eVar, eC, eOp, oOp, eCall, oCall, eOwn, hVal, hName, Hd.d, slotD, aCons, aNil, hds, vals, oLst, eTup, eIf, eAnd, eOr, eNot, eNeg, gNeg, eIsN, eChain, bE, bAnd, bOr, bNot, bYes, eSl, oSl, pSo, pNo, iSeq, iRange, iEnumD, iZipD, Ct.d, Sl.d, ownC, putC, isBor, setN, runV, runR, runO, env0, headB, txN, txT, txsCons, txsNil, List.map, List.length, List.replicate, List.append, addI, subI, leI, ltI, gtI, geI, eqI, neI, g1, lenL, lenT, intI, c]⟩
theorem fit_succ (R : Rods) (i : Nat) : iD (cl R i) ++ [.int (fit R (1 + i) fun p => p.2 * atZ (cl R i) (1 + i - p.1)).sum] = iD (cl R (i + 1)) := by
  rw [cl_succ]
  unfold iD
  rw [List.map_append]
  have : (1 + (i : Int)) = (i + 1) := by omega
  rw [this]; rfl
/-- found = [1], the loop, in both texts -/
theorem wp_counts {R : Rods} (h : V R) {n : Nat} (hn : n ≤ 299) {Q : Fl → Prop} {sb : SX} (hq : ∀ z : Option D, Wp sb [some (.p (dR R)), some (.p (.int n)), some (.o (.lst (iD (cl R n)))), z.map .p, none, none] Q) :
    Wp (sSeq (sSetO 2 (oLst (aCons (hVal (eC (.int 1))) aNil))) (sSeq (sFor (iRange rg2 (aCons (hVal (eC (.int 1))) (aCons (hVal (eOp gAdd (hName 1) (hVal (eC (.int 1))))) aNil))) (txN 3) (sApp 2 (eCall (g1 dSum) (aCons (hVal (eOwn lcCounts)) aNil)))) sb)) [some (.p (dR R)), some (.p (.int n)), none, none, none, none] Q := by
  refine wp_seq (wp_setO (c := .lst [.int 1]) (δ1 := [some (.p (dR R)), some (.p (.int n)), none, none, none, none]) (by simp [sSeq, sDrop, sIf, sRet, sRetO, sRetN, sSet, sSetO, sPar, sApp, sPut, sAug, sNext, sBreak, eFn, oFn, eRef, eArgs, eArgs.dsOf, mP, mO, mNil, eVar, eC, eOp, oOp, eCall, oCall, eOwn, hVal, hName, Hd.d, slotD, aCons, aNil, hds, vals, oLst, eTup, eIf, eAnd, eOr, eNot, eNeg, gNeg, eIsN, eChain, bE, bAnd, bOr, bNot, bYes, eSl, oSl, pSo, pNo, iSeq, iRange, iEnumD, iZipD, Ct.d, Sl.d, ownC, putC, isBor, setN, runV, runR, runO, env0, headB, txN, txT, txsCons, txsNil, List.map, List.length, List.replicate, List.append, addI, subI, leI, ltI, gtI, geI, eqI, neI, g1, lenL, lenT, intI, lim]) rfl rfl ?_)
  refine wp_seq (wp_up (fun i δ => ∃ z : Option D, δ = [some (.p (dR R)), some (.p (.int n)), some (.o (.lst (iD (cl R i)))), z.map .p, none, none]) 1 n (δ1 := [some (.p (dR R)), some (.p (.int n)), some (.o (.lst [.int 1])), none, none, none]) ?_ ⟨none, rfl⟩ ?_ ?_)
  · exact iR2 rfl rfl rfl rfl (by omega) (by omega) (by omega) (by omega) (by omega)
  · rintro i δ hi ⟨z, rfl⟩
    refine ⟨[some (.p (dR R)), some (.p (.int n)), some (.o (.lst (iD (cl R i)))), some (.p (.int (1 + (i : Int)))), none, none], by cases z <;> simp [sSeq, sDrop, sIf, sRet, sRetO, sRetN, sSet, sSetO, sPar, sApp, sPut, sAug, sNext, sBreak, eFn, oFn, eRef, eArgs, eArgs.dsOf, mP, mO, mNil, eVar, eC, eOp, oOp, eCall, oCall, eOwn, hVal, hName, Hd.d, slotD, aCons, aNil, hds, vals, oLst, eTup, eIf, eAnd, eOr, eNot, eNeg, gNeg, eIsN, eChain, bE, bAnd, bOr, bNot, bYes, eSl, oSl, pSo, pNo, iSeq, iRange, iEnumD, iZipD, Ct.d, Sl.d, ownC, putC, isBor, setN, runV, runR, runO, env0, headB, txN, txT, txsCons, txsNil, List.map, List.length, List.replicate, List.append, addI, subI, leI, ltI, gtI, geI, eqI, neI, g1, lenL, lenT, intI], ?_⟩
    refine wp_app rfl (e_sum (lc_counts h (by omega) _)) rfl (by rw [iD_len, cl_len]; simp [lim]; omega) ⟨_, .inl rfl, some (.int (1 + i)), ?_⟩
    rw [fit_succ]; rfl
  · rintro δ' ⟨z, rfl⟩
    exact hq z
theorem v_counts {R : Rods} (h : V R) {n : Nat} (hn : n ≤ 299) : F_counts [dR R, .int n] = some (.tup (iD (cl R n))) := by
  refine runV_wp ?_
  show Wp _ [some (.p (dR R)), some (.p (.int n)), none, none, none, none] _
  refine wp_seq (wp_drop (d := .non) (δ1 := [some (.p (dR R)), some (.p (.int n)), none, none, none, none]) (by simp [sSeq, sDrop, sIf, sRet, sRetO, sRetN, sSet, sSetO, sPar, sApp, sPut, sAug, sNext, sBreak, eFn, oFn, eRef, eArgs, eArgs.dsOf, mP, mO, mNil, eVar, eC, eOp, oOp, eCall, oCall, eOwn, hVal, hName, Hd.d, slotD, aCons, aNil, hds, vals, oLst, eTup, eIf, eAnd, eOr, eNot, eNeg, gNeg, eIsN, eChain, bE, bAnd, bOr, bNot, bYes, eSl, oSl, pSo, pNo, iSeq, iRange, iEnumD, iZipD, Ct.d, Sl.d, ownC, putC, isBor, setN, runV, runR, runO, env0, headB, txN, txT, txsCons, txsNil, List.map, List.length, List.replicate, List.append, addI, subI, leI, ltI, gtI, geI, eqI, neI, g1, lenL, lenT, intI, v_check_rods h]) ?_)
  refine wp_seq (wp_drop (d := .non) (δ1 := [some (.p (dR R)), some (.p (.int n)), none, none, none, none]) (by simp [sSeq, sDrop, sIf, sRet, sRetO, sRetN, sSet, sSetO, sPar, sApp, sPut, sAug, sNext, sBreak, eFn, oFn, eRef, eArgs, eArgs.dsOf, mP, mO, mNil, eVar, eC, eOp, oOp, eCall, oCall, eOwn, hVal, hName, Hd.d, slotD, aCons, aNil, hds, vals, oLst, eTup, eIf, eAnd, eOr, eNot, eNeg, gNeg, eIsN, eChain, bE, bAnd, bOr, bNot, bYes, eSl, oSl, pSo, pNo, iSeq, iRange, iEnumD, iZipD, Ct.d, Sl.d, ownC, putC, isBor, setN, runV, runR, runO, env0, headB, txN, txT, txsCons, txsNil, List.map, List.length, List.replicate, List.append, addI, subI, leI, ltI, gtI, geI, eqI, neI, g1, lenL, lenT, intI, v_check_number (show (0 : Int) ≤ n by omega) (show (n : Int) ≤ 400 by omega)]) ?_)
  refine wp_counts h hn fun z => wp_ret (δ1 := [some (.p (dR R)), some (.p (.int n)), some (.o (.lst (iD (cl R n)))), z.map .p, none, none]) ?_ (.inl ⟨_, rfl⟩)
  simp [sSeq, sDrop, sIf, sRet, sRetO, sRetN, sSet, sSetO, sPar, sApp, sPut, sAug, sNext, sBreak, eFn, oFn, eRef, eArgs, eArgs.dsOf, mP, mO, mNil, eVar, eC, eOp, oOp, eCall, oCall, eOwn, hVal, hName, Hd.d, slotD, aCons, aNil, hds, vals, oLst, eTup, eIf, eAnd, eOr, eNot, eNeg, gNeg, eIsN, eChain, bE, bAnd, bOr, bNot, bYes, eSl, oSl, pSo, pNo, iSeq, iRange, iEnumD, iZipD, Ct.d, Sl.d, ownC, putC, isBor, setN, runV, runR, runO, env0, headB, txN, txT, txsCons, txsNil, List.map, List.length, List.replicate, List.append, addI, subI, leI, ltI, gtI, geI, eqI, neI, g1, lenL, lenT, intI, dTuple]
theorem v__law_counts {R : Rods} (h : V R) {n : Nat} (hn : n ≤ 299) : F__law_counts [dR R, .int n] = some (.lst (iD (cl R n))) := by
  refine runV_wp ?_
  show Wp _ [some (.p (dR R)), some (.p (.int n)), none, none, none, none] _
  refine wp_counts h hn fun z => wp_ret (δ1 := [some (.p (dR R)), some (.p (.int n)), some (.p (.lst (iD (cl R n)))), z.map .p, none, none]) ?_ (.inl ⟨_, rfl⟩)
  simp [sSeq, sDrop, sIf, sRet, sRetO, sRetN, sSet, sSetO, sPar, sApp, sPut, sAug, sNext, sBreak, eFn, oFn, eRef, eArgs, eArgs.dsOf, mP, mO, mNil, eVar, eC, eOp, oOp, eCall, oCall, eOwn, hVal, hName, Hd.d, slotD, aCons, aNil, hds, vals, oLst, eTup, eIf, eAnd, eOr, eNot, eNeg, gNeg, eIsN, eChain, bE, bAnd, bOr, bNot, bYes, eSl, oSl, pSo, pNo, iSeq, iRange, iEnumD, iZipD, Ct.d, Sl.d, ownC, putC, isBor, setN, runV, runR, runO, env0, headB, txN, txT, txsCons, txsNil, List.map, List.length, List.replicate, List.append, addI, subI, leI, ltI, gtI, geI, eqI, neI, g1, lenL, lenT, intI]
end K15

namespace K15
open PySem PySem.Spec PyProof.Rows L2 DL
/-! ### sums over rods by a loop -/
theorem atZ_cl {R : Rods} (h : V R) {n : Nat} (hn : n ≤ 299) {i : Int} (h0 : 0 ≤ i) (hi : i ≤ n) : gIx (.tup (iD (cl R n))) (.int i) = some (.int (atZ (cl R n) i)) ∧ small (atZ (cl R n) i) = true ∧ 0 ≤ atZ (cl R n) i ∧ atZ (cl R n) i ≤ 72 ^ n := by
  obtain ⟨b1, b2⟩ := cl_bound h n i h0 hi
  exact ⟨ixT h0 (by rw [cl_len]; omega), small72 b1 b2 (by omega), b1, Int.le_trans b2 (p72 (by omega))⟩
theorem fit_snoc (R : Rods) (n : Int) (f : Int × Int → Int) (p : Int × Int) : (fit (R ++ [p]) n f).sum = (fit R n f).sum + (if p.1 ≤ n then f p else 0) := by
  unfold fit
  rw [List.filterMap_append, List.sum_append]
  by_cases c : p.1 ≤ n <;> simp [c]

/-! ### round_counts -/
def rd_ (R : Rods) (n : Nat) (k : Int) : Int := (fit R k fun p => p.1 * p.2 * atZ (cl R n) (k - p.1)).sum
def rdL (R : Rods) (n i : Nat) : List Int := (List.range i).map fun (j : Nat) => rd_ R n (1 + (j : Int))
def rdl (R : Rods) (n : Nat) : List Int := rdL R n n
theorem rdL_len (R : Rods) (n i : Nat) : (rdL R n i).length = i := by unfold rdL; simp
theorem rdL_succ (R : Rods) (n i : Nat) : iD (rdL R n (i + 1)) = iD (rdL R n i) ++ [.int (rd_ R n (1 + (i : Int)))] := by
  unfold rdL iD
  rw [List.range_succ, List.map_append, List.map_append]; rfl
theorem v_round_counts {R : Rods} (h : V R) {n : Nat} (hn : n ≤ 299) : F_round_counts [dR R, .int n] = some (.tup (iD (rdl R n))) := by
  refine runV_wp ?_
  show Wp _ [some (.p (dR R)), some (.p (.int n)), none, none, none, none, none, none] _
  refine wp_seq (wp_par (xs := [.p (.tup (iD (cl R n))), .o (.lst [])]) (δ1 := [some (.p (dR R)), some (.p (.int n)), none, none, none, none, none, none]) rfl (by simp [sSeq, sDrop, sIf, sRet, sRetO, sRetN, sSet, sSetO, sPar, sApp, sPut, sAug, sNext, sBreak, eFn, oFn, eRef, eArgs, eArgs.dsOf, mP, mO, mNil, eVar, eC, eOp, oOp, eCall, oCall, eOwn, hVal, hName, Hd.d, slotD, aCons, aNil, hds, vals, oLst, eTup, eIf, eAnd, eOr, eNot, eNeg, gNeg, eIsN, eChain, bE, bAnd, bOr, bNot, bYes, eSl, oSl, pSo, pNo, iSeq, iRange, iEnumD, iZipD, Ct.d, Sl.d, ownC, putC, isBor, setN, runV, runR, runO, env0, headB, txN, txT, txsCons, txsNil, List.map, List.length, List.replicate, List.append, addI, subI, leI, ltI, gtI, geI, eqI, neI, g1, lenL, lenT, intI, v_counts h hn, lim]) rfl ?_)
  show Wp _ [some (.p (dR R)), some (.p (.int n)), some (.p (.tup (iD (cl R n)))), some (.o (.lst [])), none, none, none, none] _
  refine wp_seq (wp_up (fun i δ => ∃ a b c d : Option D, δ = [some (.p (dR R)), some (.p (.int n)), some (.p (.tup (iD (cl R n)))), some (.o (.lst (iD (rdL R n i)))), a.map .p, b.map .p, c.map .p, d.map .p]) 1 n
    (iR2 rfl rfl rfl rfl (by omega) (by omega) (by omega) (by omega) (by omega)) ⟨none, none, none, none, rfl⟩ ?_ ?_)
  · rintro i δ hi ⟨a, b, c, d, rfl⟩
    refine ⟨[some (.p (dR R)), some (.p (.int n)), some (.p (.tup (iD (cl R n)))), some (.o (.lst (iD (rdL R n i)))), some (.p (.int (1 + i))), b.map .p, c.map .p, d.map .p], by cases a <;> simp [sSeq, sDrop, sIf, sRet, sRetO, sRetN, sSet, sSetO, sPar, sApp, sPut, sAug, sNext, sBreak, eFn, oFn, eRef, eArgs, eArgs.dsOf, mP, mO, mNil, eVar, eC, eOp, oOp, eCall, oCall, eOwn, hVal, hName, Hd.d, slotD, aCons, aNil, hds, vals, oLst, eTup, eIf, eAnd, eOr, eNot, eNeg, gNeg, eIsN, eChain, bE, bAnd, bOr, bNot, bYes, eSl, oSl, pSo, pNo, iSeq, iRange, iEnumD, iZipD, Ct.d, Sl.d, ownC, putC, isBor, setN, runV, runR, runO, env0, headB, txN, txT, txsCons, txsNil, List.map, List.length, List.replicate, List.append, addI, subI, leI, ltI, gtI, geI, eqI, neI, g1, lenL, lenT, intI], ?_⟩
    refine wp_seq (wp_set (d := .int 0) (δ1 := [some (.p (dR R)), some (.p (.int n)), some (.p (.tup (iD (cl R n)))), some (.o (.lst (iD (rdL R n i)))), some (.p (.int (1 + i))), b.map .p, c.map .p, d.map .p]) rfl (by cases b <;> rfl) (by cases b <;> rfl) ?_)
    show Wp _ [some (.p (dR R)), some (.p (.int n)), some (.p (.tup (iD (cl R n)))), some (.o (.lst (iD (rdL R n i)))), some (.p (.int (1 + i))), some (.p (.int 0)), c.map .p, d.map .p] _
    refine wp_seq (wp_for tupI (fun xs δ => ∃ c d : Option D, δ = [some (.p (dR R)), some (.p (.int n)), some (.p (.tup (iD (cl R n)))), some (.o (.lst (iD (rdL R n i)))), some (.p (.int (1 + i))), some (.p (.int (fit xs (1 + i) fun p => p.1 * p.2 * atZ (cl R n) (1 + i - p.1)).sum)), c.map .p, d.map .p]) R rfl ⟨c, d, rfl⟩ ?_ ?_)
    · rintro p x q δ e ⟨c, d, rfl⟩
      obtain ⟨l1, l2, l3, l4⟩ := h.lo x (by rw [e]; simp)
      refine ⟨[some (.p (dR R)), some (.p (.int n)), some (.p (.tup (iD (cl R n)))), some (.o (.lst (iD (rdL R n i)))), some (.p (.int (1 + i))), some (.p (.int (fit p (1 + i) fun p => p.1 * p.2 * atZ (cl R n) (1 + i - p.1)).sum)), some (.p (.int x.1)), some (.p (.int x.2))], by cases c <;> cases d <;> simp [sSeq, sDrop, sIf, sRet, sRetO, sRetN, sSet, sSetO, sPar, sApp, sPut, sAug, sNext, sBreak, eFn, oFn, eRef, eArgs, eArgs.dsOf, mP, mO, mNil, eVar, eC, eOp, oOp, eCall, oCall, eOwn, hVal, hName, Hd.d, slotD, aCons, aNil, hds, vals, oLst, eTup, eIf, eAnd, eOr, eNot, eNeg, gNeg, eIsN, eChain, bE, bAnd, bOr, bNot, bYes, eSl, oSl, pSo, pNo, iSeq, iRange, iEnumD, iZipD, Ct.d, Sl.d, ownC, putC, isBor, setN, runV, runR, runO, env0, headB, txN, txT, txsCons, txsNil, List.map, List.length, List.replicate, List.append, addI, subI, leI, ltI, gtI, geI, eqI, neI, g1, lenL, lenT, intI, tupI], ?_⟩
      refine wp_if (b := decide (x.1 ≤ 1 + (i : Int))) rfl (fun c => ?_) (fun c => ?_)
      · have c := of_decide_eq_true c
        obtain ⟨y1, y2, y3, y4⟩ := atZ_cl h hn (i := 1 + i - x.1) (by omega) (by omega)
        have m1 := mulI (a := x.1) (b := x.2) (small_le (k := 8) (by omega) (by omega) (by decide)) (small_le (k := 8) (by omega) (by omega) (by decide))
        have b1 : 0 ≤ x.1 * x.2 := Int.mul_nonneg (by omega) (by omega)
        have b2 : x.1 * x.2 ≤ 60 * 9 := Int.le_trans (Int.mul_le_mul_of_nonneg_right l2 (by omega)) (Int.mul_le_mul_of_nonneg_left l4 (by decide))
        have m2 := mulI (a := x.1 * x.2) (small_le (k := 12) b1 (by omega) (by decide)) y2
        refine wp_aug (b := x.1 * x.2 * atZ (cl R n) (1 + i - x.1)) (δ1 := [some (.p (dR R)), some (.p (.int n)), some (.p (.tup (iD (cl R n)))), some (.o (.lst (iD (rdL R n i)))), some (.p (.int (1 + i))), some (.p (.int (fit p (1 + i) fun p => p.1 * p.2 * atZ (cl R n) (1 + i - p.1)).sum)), some (.p (.int x.1)), some (.p (.int x.2))]) rfl ?_ rfl ⟨_, .inl rfl, some (.int x.1), some (.int x.2), ?_⟩
        · simp [sSeq, sDrop, sIf, sRet, sRetO, sRetN, sSet, sSetO, sPar, sApp, sPut, sAug, sNext, sBreak, eFn, oFn, eRef, eArgs, eArgs.dsOf, mP, mO, mNil, eVar, eC, eOp, oOp, eCall, oCall, eOwn, hVal, hName, Hd.d, slotD, aCons, aNil, hds, vals, oLst, eTup, eIf, eAnd, eOr, eNot, eNeg, gNeg, eIsN, eChain, bE, bAnd, bOr, bNot, bYes, eSl, oSl, pSo, pNo, iSeq, iRange, iEnumD, iZipD, Ct.d, Sl.d, ownC, putC, isBor, setN, runV, runR, runO, env0, headB, txN, txT, txsCons, txsNil, List.map, List.length, List.replicate, List.append, addI, subI, leI, ltI, gtI, geI, eqI, neI, g1, lenL, lenT, intI, y1, m1, m2]
        · rw [fit_snoc, if_pos c]; rfl
      · have c := of_decide_eq_false c
        refine wp_next ⟨_, .inl rfl, some (.int x.1), some (.int x.2), ?_⟩
        rw [fit_snoc, if_neg c, Int.add_zero]; rfl
    · rintro δ' ⟨c, d, rfl⟩
      refine wp_app rfl rfl rfl (by rw [iD_len, rdL_len]; simp [lim]; omega) ⟨_, .inl rfl, some (.int (1 + i)), some (.int (rd_ R n (1 + i))), c, d, ?_⟩
      rw [rdL_succ]; rfl
  · rintro δ' ⟨a, b, c, d, rfl⟩
    refine wp_ret (δ1 := [some (.p (dR R)), some (.p (.int n)), some (.p (.tup (iD (cl R n)))), some (.o (.lst (iD (rdl R n)))), a.map .p, b.map .p, c.map .p, d.map .p]) ?_ (.inl ⟨_, rfl⟩)
    rfl
end K15

namespace K15
open PySem PySem.Spec PyProof.Rows L2 DL
/-! ### mean_rods, broken_at -/
def stepM (R : Rods) (n : Nat) (ms : List Int) (k : Int) : Int := (fit R k fun p => p.2 * (atZ ms (k - p.1) + atZ (cl R n) (k - p.1))).sum
def ml (R : Rods) (n : Nat) : Nat → List Int
  | 0 => [0]
  | i + 1 => ml R n i ++ [stepM R n (ml R n i) (1 + i)]
theorem ml_succ (R : Rods) (n i : Nat) : ml R n (i + 1) = ml R n i ++ [stepM R n (ml R n i) (1 + i)] := rfl
theorem ml_len (R : Rods) (n : Nat) : ∀ i, (ml R n i).length = i + 1
  | 0 => rfl
  | i + 1 => by rw [ml_succ, List.length_append, ml_len R n i]; rfl
theorem iD_app (xs : List Int) (y : Int) : iD (xs ++ [y]) = iD xs ++ [.int y] := by unfold iD; rw [List.map_append]; rfl
theorem ml_bound {R : Rods} (h : V R) {n : Nat} (hn : n ≤ 299) : ∀ (i : Nat), i ≤ n → ∀ (j : Int), 0 ≤ j → j ≤ i → 0 ≤ atZ (ml R n i) j ∧ atZ (ml R n i) j ≤ j * 72 ^ j.toNat := by
  intro i
  induction i with
  | zero => intro _ j h0 hj; have : j = 0 := by omega
            subst this; exact ⟨by show (0 : Int) ≤ 0; decide, by show (0 : Int) ≤ 0; decide⟩
  | succ i ih =>
    intro hi j h0 hj
    rcases Int.lt_or_le j (i + 1) with lt | ge
    · rw [ml_succ, atZ_app h0 (by rw [ml_len]; omega)]
      exact ih (by omega) j h0 (by omega)
    · have e : j = ((i + 1 : Nat) : Int) := by omega
      subst e
      have e2 : atZ (ml R n (i + 1)) ((i + 1 : Nat) : Int) = stepM R n (ml R n i) (1 + i) := by
        rw [ml_succ]
        have := atZ_last (xs := ml R n i) (y := stepM R n (ml R n i) (1 + i))
        rw [ml_len] at this
        exact this
      rw [e2]
      have b : ∀ x ∈ fit R (1 + i) (fun p => p.2 * (atZ (ml R n i) (1 + i - p.1) + atZ (cl R n) (1 + i - p.1))), 0 ≤ x ∧ x ≤ 9 * ((i + 1) * 72 ^ i) := fun x hx => by
        obtain ⟨p, hp, h1, rfl⟩ := fit_mem hx
        obtain ⟨l1, l2, l3, l4⟩ := h.lo p hp
        obtain ⟨a1, a2⟩ := ih (by omega) (1 + i - p.1) (by omega) (by omega)
        obtain ⟨c1, c2⟩ := cl_bound h n (1 + i - p.1) (by omega) (by omega)
        have a3 : (72 : Int) ^ (1 + (i : Int) - p.1).toNat ≤ 72 ^ i := p72 (by omega)
        have a4 : (0 : Int) ≤ 72 ^ (1 + (i : Int) - p.1).toNat := Int.pow_nonneg (by decide)
        have a5 : (1 + (i : Int) - p.1) * 72 ^ (1 + (i : Int) - p.1).toNat ≤ i * 72 ^ i := Int.le_trans (Int.mul_le_mul_of_nonneg_right (show 1 + (i : Int) - p.1 ≤ i by omega) a4) (Int.mul_le_mul_of_nonneg_left a3 (by omega))
        have a6 : ((i : Int) + 1) * 72 ^ i = i * 72 ^ i + 72 ^ i := by rw [Int.add_mul, Int.one_mul]
        have s0 : 0 ≤ atZ (ml R n i) (1 + i - p.1) + atZ (cl R n) (1 + i - p.1) := by omega
        have s1 : atZ (ml R n i) (1 + i - p.1) + atZ (cl R n) (1 + i - p.1) ≤ ((i : Int) + 1) * 72 ^ i := by rw [a6]; omega
        exact ⟨Int.mul_nonneg (by omega) s0, Int.le_trans (Int.mul_le_mul_of_nonneg_right l4 s0) (Int.mul_le_mul_of_nonneg_left s1 (by decide))⟩
      obtain ⟨s1, s2⟩ := sum_le b
      refine ⟨s1, Int.le_trans s2 ?_⟩
      have l : ((fit R (1 + i) (fun p => p.2 * (atZ (ml R n i) (1 + i - p.1) + atZ (cl R n) (1 + i - p.1)))).length : Int) ≤ 8 := by have := fit_len R (1 + i) (fun p => p.2 * (atZ (ml R n i) (1 + i - p.1) + atZ (cl R n) (1 + i - p.1))); have := h.len; omega
      have p0 : (0 : Int) ≤ (i + 1) * 72 ^ i := Int.mul_nonneg (by omega) (Int.pow_nonneg (by decide))
      refine Int.le_trans (Int.mul_le_mul_of_nonneg_right l (Int.mul_nonneg (by decide) p0)) ?_
      have e7 : ((i + 1 : Nat) : Int) * (72 ^ i * 72) = ((i : Int) + 1) * 72 ^ i * 72 := by rw [Int.mul_assoc]; rfl
      rw [show ((i + 1 : Nat) : Int).toNat = i + 1 by omega, Int.pow_succ, e7]
      omega
theorem ml_ok {R : Rods} (h : V R) {n : Nat} (hn : n ≤ 299) {i : Nat} (hi : i ≤ n) {j : Int} (h0 : 0 ≤ j) (hj : j ≤ i) : gIx (.lst (iD (ml R n i))) (.int j) = some (.int (atZ (ml R n i) j)) ∧ 0 ≤ atZ (ml R n i) j ∧ atZ (ml R n i) j ≤ 300 * 72 ^ 299 := by
  obtain ⟨b1, b2⟩ := ml_bound h hn i hi j h0 hj
  refine ⟨ixL h0 (by rw [ml_len]; omega), b1, Int.le_trans b2 ?_⟩
  have a4 : (0 : Int) ≤ 72 ^ j.toNat := Int.pow_nonneg (by decide)
  exact Int.le_trans (Int.mul_le_mul_of_nonneg_right (show j ≤ 300 by omega) a4) (Int.mul_le_mul_of_nonneg_left (p72 (by omega)) (by decide))
theorem small_sum {a b : Int} (a0 : 0 ≤ a) (a1 : a ≤ 300 * 72 ^ 299) (b0 : 0 ≤ b) (b1 : b ≤ 72 ^ 299) : small (a + b) = true := by
  refine small_le (k := 2000) (by omega) ?_ (Nat.le_refl _)
  have : (300 : Int) * 72 ^ 299 + 72 ^ 299 < 2 ^ 2000 := by decide +kernel
  omega
theorem v_mean_rods {R : Rods} (h : V R) {n : Nat} (hn : n ≤ 299) : F_mean_rods [dR R, .int n] = some (.int (atZ (ml R n n) n)) := by
  refine runV_wp ?_
  show Wp _ [some (.p (dR R)), some (.p (.int n)), none, none, none, none, none, none] _
  refine wp_seq (wp_set (d := .tup (iD (cl R n))) (δ1 := [some (.p (dR R)), some (.p (.int n)), none, none, none, none, none, none]) (by simp [sSeq, sDrop, sIf, sRet, sRetO, sRetN, sSet, sSetO, sPar, sApp, sPut, sAug, sNext, sBreak, eFn, oFn, eRef, eArgs, eArgs.dsOf, mP, mO, mNil, eVar, eC, eOp, oOp, eCall, oCall, eOwn, hVal, hName, Hd.d, slotD, aCons, aNil, hds, vals, oLst, eTup, eIf, eAnd, eOr, eNot, eNeg, gNeg, eIsN, eChain, bE, bAnd, bOr, bNot, bYes, eSl, oSl, pSo, pNo, iSeq, iRange, iEnumD, iZipD, Ct.d, Sl.d, ownC, putC, isBor, setN, runV, runR, runO, env0, headB, txN, txT, txsCons, txsNil, List.map, List.length, List.replicate, List.append, addI, subI, leI, ltI, gtI, geI, eqI, neI, g1, lenL, lenT, intI, v_counts h hn]) rfl rfl ?_)
  refine wp_seq (wp_setO (c := .lst [.int 0]) (δ1 := [some (.p (dR R)), some (.p (.int n)), some (.p (.tup (iD (cl R n)))), none, none, none, none, none]) (by simp [sSeq, sDrop, sIf, sRet, sRetO, sRetN, sSet, sSetO, sPar, sApp, sPut, sAug, sNext, sBreak, eFn, oFn, eRef, eArgs, eArgs.dsOf, mP, mO, mNil, eVar, eC, eOp, oOp, eCall, oCall, eOwn, hVal, hName, Hd.d, slotD, aCons, aNil, hds, vals, oLst, eTup, eIf, eAnd, eOr, eNot, eNeg, gNeg, eIsN, eChain, bE, bAnd, bOr, bNot, bYes, eSl, oSl, pSo, pNo, iSeq, iRange, iEnumD, iZipD, Ct.d, Sl.d, ownC, putC, isBor, setN, runV, runR, runO, env0, headB, txN, txT, txsCons, txsNil, List.map, List.length, List.replicate, List.append, addI, subI, leI, ltI, gtI, geI, eqI, neI, g1, lenL, lenT, intI, lim]) rfl rfl ?_)
  refine wp_seq (wp_up (fun i δ => ∃ a b c d : Option D, δ = [some (.p (dR R)), some (.p (.int n)), some (.p (.tup (iD (cl R n)))), some (.o (.lst (iD (ml R n i)))), a.map .p, b.map .p, c.map .p, d.map .p]) 1 n (iR2 rfl rfl rfl rfl (by omega) (by omega) (by omega) (by omega) (by omega)) ⟨none, none, none, none, rfl⟩ ?_ ?_)
  · rintro i δ hi ⟨a, b, c, d, rfl⟩
    refine ⟨[some (.p (dR R)), some (.p (.int n)), some (.p (.tup (iD (cl R n)))), some (.o (.lst (iD (ml R n i)))), some (.p (.int (1 + i))), b.map .p, c.map .p, d.map .p], by cases a <;> simp [sSeq, sDrop, sIf, sRet, sRetO, sRetN, sSet, sSetO, sPar, sApp, sPut, sAug, sNext, sBreak, eFn, oFn, eRef, eArgs, eArgs.dsOf, mP, mO, mNil, eVar, eC, eOp, oOp, eCall, oCall, eOwn, hVal, hName, Hd.d, slotD, aCons, aNil, hds, vals, oLst, eTup, eIf, eAnd, eOr, eNot, eNeg, gNeg, eIsN, eChain, bE, bAnd, bOr, bNot, bYes, eSl, oSl, pSo, pNo, iSeq, iRange, iEnumD, iZipD, Ct.d, Sl.d, ownC, putC, isBor, setN, runV, runR, runO, env0, headB, txN, txT, txsCons, txsNil, List.map, List.length, List.replicate, List.append, addI, subI, leI, ltI, gtI, geI, eqI, neI, g1, lenL, lenT, intI], ?_⟩
    refine wp_seq (wp_set (d := .int 0) (δ1 := [some (.p (dR R)), some (.p (.int n)), some (.p (.tup (iD (cl R n)))), some (.o (.lst (iD (ml R n i)))), some (.p (.int (1 + i))), b.map .p, c.map .p, d.map .p]) rfl (by cases b <;> rfl) (by cases b <;> rfl) ?_)
    show Wp _ [some (.p (dR R)), some (.p (.int n)), some (.p (.tup (iD (cl R n)))), some (.o (.lst (iD (ml R n i)))), some (.p (.int (1 + i))), some (.p (.int 0)), c.map .p, d.map .p] _
    refine wp_seq (wp_for tupI (fun xs δ => ∃ c d : Option D, δ = [some (.p (dR R)), some (.p (.int n)), some (.p (.tup (iD (cl R n)))), some (.o (.lst (iD (ml R n i)))), some (.p (.int (1 + i))), some (.p (.int (fit xs (1 + i) fun p => p.2 * (atZ (ml R n i) (1 + i - p.1) + atZ (cl R n) (1 + i - p.1))).sum)), c.map .p, d.map .p]) R rfl ⟨c, d, rfl⟩ ?_ ?_)
    · rintro p x q δ e ⟨c, d, rfl⟩
      obtain ⟨l1, l2, l3, l4⟩ := h.lo x (by rw [e]; simp)
      refine ⟨[some (.p (dR R)), some (.p (.int n)), some (.p (.tup (iD (cl R n)))), some (.o (.lst (iD (ml R n i)))), some (.p (.int (1 + i))), some (.p (.int (fit p (1 + i) fun p => p.2 * (atZ (ml R n i) (1 + i - p.1) + atZ (cl R n) (1 + i - p.1))).sum)), some (.p (.int x.1)), some (.p (.int x.2))], by cases c <;> cases d <;> simp [sSeq, sDrop, sIf, sRet, sRetO, sRetN, sSet, sSetO, sPar, sApp, sPut, sAug, sNext, sBreak, eFn, oFn, eRef, eArgs, eArgs.dsOf, mP, mO, mNil, eVar, eC, eOp, oOp, eCall, oCall, eOwn, hVal, hName, Hd.d, slotD, aCons, aNil, hds, vals, oLst, eTup, eIf, eAnd, eOr, eNot, eNeg, gNeg, eIsN, eChain, bE, bAnd, bOr, bNot, bYes, eSl, oSl, pSo, pNo, iSeq, iRange, iEnumD, iZipD, Ct.d, Sl.d, ownC, putC, isBor, setN, runV, runR, runO, env0, headB, txN, txT, txsCons, txsNil, List.map, List.length, List.replicate, List.append, addI, subI, leI, ltI, gtI, geI, eqI, neI, g1, lenL, lenT, intI, tupI], ?_⟩
      refine wp_if (b := decide (x.1 ≤ 1 + (i : Int))) rfl (fun c => ?_) (fun c => ?_)
      · have c := of_decide_eq_true c
        obtain ⟨y1, y2, y3, y4⟩ := atZ_cl h hn (i := 1 + i - x.1) (by omega) (by omega)
        obtain ⟨z1, z2, z3⟩ := ml_ok h hn (i := i) (by omega) (j := 1 + i - x.1) (by omega) (by omega)
        have m2 := mulI (a := x.2) (small_le (k := 12) (by omega) (by omega) (by decide)) (small_sum z2 z3 y3 (Int.le_trans y4 (p72 hn)))
        refine wp_aug (b := x.2 * (atZ (ml R n i) (1 + i - x.1) + atZ (cl R n) (1 + i - x.1))) (δ1 := [some (.p (dR R)), some (.p (.int n)), some (.p (.tup (iD (cl R n)))), some (.o (.lst (iD (ml R n i)))), some (.p (.int (1 + i))), some (.p (.int (fit p (1 + i) fun p => p.2 * (atZ (ml R n i) (1 + i - p.1) + atZ (cl R n) (1 + i - p.1))).sum)), some (.p (.int x.1)), some (.p (.int x.2))]) rfl ?_ rfl ⟨_, .inl rfl, some (.int x.1), some (.int x.2), ?_⟩
        · simp [sSeq, sDrop, sIf, sRet, sRetO, sRetN, sSet, sSetO, sPar, sApp, sPut, sAug, sNext, sBreak, eFn, oFn, eRef, eArgs, eArgs.dsOf, mP, mO, mNil, eVar, eC, eOp, oOp, eCall, oCall, eOwn, hVal, hName, Hd.d, slotD, aCons, aNil, hds, vals, oLst, eTup, eIf, eAnd, eOr, eNot, eNeg, gNeg, eIsN, eChain, bE, bAnd, bOr, bNot, bYes, eSl, oSl, pSo, pNo, iSeq, iRange, iEnumD, iZipD, Ct.d, Sl.d, ownC, putC, isBor, setN, runV, runR, runO, env0, headB, txN, txT, txsCons, txsNil, List.map, List.length, List.replicate, List.append, addI, subI, leI, ltI, gtI, geI, eqI, neI, g1, lenL, lenT, intI, y1, z1, m2]
        · rw [fit_snoc, if_pos c]; rfl
      · have c := of_decide_eq_false c
        refine wp_next ⟨_, .inl rfl, some (.int x.1), some (.int x.2), ?_⟩
        rw [fit_snoc, if_neg c, Int.add_zero]; rfl
    · rintro δ' ⟨c, d, rfl⟩
      refine wp_app rfl rfl rfl (by rw [iD_len, ml_len]; simp [lim]; omega) ⟨_, .inl rfl, some (.int (1 + i)), some (.int (fit R (1 + i) fun p => p.2 * (atZ (ml R n i) (1 + i - p.1) + atZ (cl R n) (1 + i - p.1))).sum), c, d, ?_⟩
      rw [ml_succ, iD_app]; rfl
  · rintro δ' ⟨a, b, c, d, rfl⟩
    obtain ⟨z1, _⟩ := ml_ok h hn (i := n) (Nat.le_refl n) (j := n) (by omega) (Int.le_refl _)
    refine wp_ret (δ1 := [some (.p (dR R)), some (.p (.int n)), some (.p (.tup (iD (cl R n)))), some (.o (.lst (iD (ml R n n)))), a.map .p, b.map .p, c.map .p, d.map .p]) ?_ (.inl ⟨_, rfl⟩)
    simp [sSeq, sDrop, sIf, sRet, sRetO, sRetN, sSet, sSetO, sPar, sApp, sPut, sAug, sNext, sBreak, eFn, oFn, eRef, eArgs, eArgs.dsOf, mP, mO, mNil, eVar, eC, eOp, oOp, eCall, oCall, eOwn, hVal, hName, Hd.d, slotD, aCons, aNil, hds, vals, oLst, eTup, eIf, eAnd, eOr, eNot, eNeg, gNeg, eIsN, eChain, bE, bAnd, bOr, bNot, bYes, eSl, oSl, pSo, pNo, iSeq, iRange, iEnumD, iZipD, Ct.d, Sl.d, ownC, putC, isBor, setN, runV, runR, runO, env0, headB, txN, txT, txsCons, txsNil, List.map, List.length, List.replicate, List.append, addI, subI, leI, ltI, gtI, geI, eqI, neI, g1, lenL, lenT, intI, z1]
theorem v_broken_at {R : Rods} (h : V R) {n k : Nat} (hn : n ≤ 299) (hk : k ≤ n) : F_broken_at [dR R, .int n, .int k] = some (.int (atZ (cl R n) k * atZ (cl R n) (n - k))) := by
  refine runV_wp ?_
  show Wp _ [some (.p (dR R)), some (.p (.int n)), some (.p (.int k)), none] _
  refine wp_seq (wp_set (d := .tup (iD (cl R n))) (δ1 := [some (.p (dR R)), some (.p (.int n)), some (.p (.int k)), none]) (by simp [sSeq, sDrop, sIf, sRet, sRetO, sRetN, sSet, sSetO, sPar, sApp, sPut, sAug, sNext, sBreak, eFn, oFn, eRef, eArgs, eArgs.dsOf, mP, mO, mNil, eVar, eC, eOp, oOp, eCall, oCall, eOwn, hVal, hName, Hd.d, slotD, aCons, aNil, hds, vals, oLst, eTup, eIf, eAnd, eOr, eNot, eNeg, gNeg, eIsN, eChain, bE, bAnd, bOr, bNot, bYes, eSl, oSl, pSo, pNo, iSeq, iRange, iEnumD, iZipD, Ct.d, Sl.d, ownC, putC, isBor, setN, runV, runR, runO, env0, headB, txN, txT, txsCons, txsNil, List.map, List.length, List.replicate, List.append, addI, subI, leI, ltI, gtI, geI, eqI, neI, g1, lenL, lenT, intI, v_counts h hn]) rfl rfl ?_)
  refine wp_seq (wp_drop (d := .non) (δ1 := [some (.p (dR R)), some (.p (.int n)), some (.p (.int k)), some (.p (.tup (iD (cl R n))))]) (by simp [sSeq, sDrop, sIf, sRet, sRetO, sRetN, sSet, sSetO, sPar, sApp, sPut, sAug, sNext, sBreak, eFn, oFn, eRef, eArgs, eArgs.dsOf, mP, mO, mNil, eVar, eC, eOp, oOp, eCall, oCall, eOwn, hVal, hName, Hd.d, slotD, aCons, aNil, hds, vals, oLst, eTup, eIf, eAnd, eOr, eNot, eNeg, gNeg, eIsN, eChain, bE, bAnd, bOr, bNot, bYes, eSl, oSl, pSo, pNo, iSeq, iRange, iEnumD, iZipD, Ct.d, Sl.d, ownC, putC, isBor, setN, runV, runR, runO, env0, headB, txN, txT, txsCons, txsNil, List.map, List.length, List.replicate, List.append, addI, subI, leI, ltI, gtI, geI, eqI, neI, g1, lenL, lenT, intI, v_check_number (show (0 : Int) ≤ k by omega) (show (k : Int) ≤ n by omega)]) ?_)
  obtain ⟨y1, y2, _⟩ := atZ_cl h hn (i := k) (by omega) (by omega)
  obtain ⟨z1, z2, _⟩ := atZ_cl h hn (i := n - k) (by omega) (by omega)
  refine wp_ret (δ1 := [some (.p (dR R)), some (.p (.int n)), some (.p (.int k)), some (.p (.tup (iD (cl R n))))]) ?_ (.inl ⟨_, rfl⟩)
  simp [sSeq, sDrop, sIf, sRet, sRetO, sRetN, sSet, sSetO, sPar, sApp, sPut, sAug, sNext, sBreak, eFn, oFn, eRef, eArgs, eArgs.dsOf, mP, mO, mNil, eVar, eC, eOp, oOp, eCall, oCall, eOwn, hVal, hName, Hd.d, slotD, aCons, aNil, hds, vals, oLst, eTup, eIf, eAnd, eOr, eNot, eNeg, gNeg, eIsN, eChain, bE, bAnd, bOr, bNot, bYes, eSl, oSl, pSo, pNo, iSeq, iRange, iEnumD, iZipD, Ct.d, Sl.d, ownC, putC, isBor, setN, runV, runR, runO, env0, headB, txN, txT, txsCons, txsNil, List.map, List.length, List.replicate, List.append, addI, subI, leI, ltI, gtI, geI, eqI, neI, g1, lenL, lenT, intI, y1, z1, mulI y2 z2]
end K15

namespace K15
open PySem PySem.Spec PyProof.Rows L2 DL
/-! ### mirrored_counts -/
def midT (cs : List Int) (k : Int) (p : Int × Int) : Option Int := if p.1 ≤ k ∧ (k - p.1) % 2 = 0 then some (p.2 * atZ cs ((k - p.1) / 2)) else none
def midl (R : Rods) (cs : List Int) (k : Int) : Int := (if k % 2 = 0 then atZ cs (k / 2) else 0) + (R.filterMap (midT cs k)).sum
def mirL (R : Rods) (cs : List Int) (i : Nat) : List Int := (List.range i).map fun (j : Nat) => midl R cs j
theorem mirL_len (R : Rods) (cs : List Int) (i : Nat) : (mirL R cs i).length = i := by unfold mirL; simp
theorem mirL_succ (R : Rods) (cs : List Int) (i : Nat) : iD (mirL R cs (i + 1)) = iD (mirL R cs i) ++ [.int (midl R cs i)] := by
  unfold mirL iD
  rw [List.range_succ, List.map_append, List.map_append]; rfl
theorem mid_snoc (R : Rods) (cs : List Int) (k : Int) (p : Int × Int) : ((R ++ [p]).filterMap (midT cs k)).sum = (R.filterMap (midT cs k)).sum + (if p.1 ≤ k ∧ (k - p.1) % 2 = 0 then p.2 * atZ cs ((k - p.1) / 2) else 0) := by
  rw [List.filterMap_append, List.sum_append]
  by_cases c : p.1 ≤ k ∧ (k - p.1) % 2 = 0
  · simp [midT, c]
  · rw [if_neg c]
    simp [midT, c]
def keysR (R : Rods) : List Key := R.map fun p => .inl p.1
def valsR (R : Rods) : List D := R.map fun p => .int p.2
theorem pairs_R : ∀ (R : Rods), pairsD (R.map tupI) = some (R.map fun p => ((.inl p.1 : Key), D.int p.2))
  | [] => rfl
  | p :: R => by
    show (pairD (tupI p)).bind _ = _
    rw [show pairD (tupI p) = some ((.inl p.1 : Key), D.int p.2) from rfl]
    show (pairsD (R.map tupI)).bind _ = _
    rw [pairs_R R]; rfl
theorem merge_R : ∀ (R S : Rods), (S ++ R).Pairwise (·.1 < ·.1) → mergeD (keysR S) (valsR S) (R.map fun p => ((.inl p.1 : Key), D.int p.2)) = (keysR (S ++ R), valsR (S ++ R))
  | [], S, _ => by simp [mergeD]
  | p :: R, S, h => by
    have hn : (keysR S).any (fun k => decide (k = (.inl p.1 : Key))) = false := by
      rw [List.any_eq_false]
      intro k hk
      obtain ⟨q, hq, rfl⟩ := List.mem_map.mp hk
      have := (List.pairwise_append.mp h).2.2 q hq p List.mem_cons_self
      intro z
      have z := of_decide_eq_true z
      have z : q.1 = p.1 := by injection z
      omega
    have hp : putD (keysR S) (valsR S) (.inl p.1) (.int p.2) = (keysR (S ++ [p]), valsR (S ++ [p])) := by
      unfold putD
      rw [hn]
      show (keysR S ++ [.inl p.1], valsR S ++ [.int p.2]) = _
      unfold keysR valsR
      rw [List.map_append, List.map_append]; rfl
    show mergeD (putD (keysR S) (valsR S) (.inl p.1) (.int p.2)).1 (putD (keysR S) (valsR S) (.inl p.1) (.int p.2)).2 _ = _
    rw [hp]
    have := merge_R R (S ++ [p]) (by rw [List.append_assoc]; exact h)
    rw [List.append_assoc] at this
    exact this
theorem look_R : ∀ {R : Rods}, R.Pairwise (·.1 < ·.1) → ∀ p ∈ R, lookD (keysR R) (valsR R) (.inl p.1) = some (.int p.2)
  | q :: R, h, p, hp => by
    rw [List.pairwise_cons] at h
    show (if (.inl q.1 : Key) = .inl p.1 then some (D.int q.2) else lookD (keysR R) (valsR R) (.inl p.1)) = _
    rcases List.mem_cons.mp hp with rfl | hp
    · rw [if_pos rfl]
    · have := h.1 p hp
      rw [if_neg (fun z => by have z : q.1 = p.1 := by injection z
                              omega)]
      exact look_R h.2 p hp
theorem dict_R {R : Rods} (h : V R) : cDict [.lst (R.map tupI)] = some (.dk (keysR R) (valsR R)) := by
  have m := merge_R R [] (by simpa using h.inc)
  show (pairsD (R.map tupI)).bind _ = _
  rw [pairs_R]
  show some (Ct.dk (mergeD [] [] _).1 (mergeD [] [] _).2) = _
  have m' : mergeD [] [] (R.map fun p => ((.inl p.1 : Key), D.int p.2)) = (keysR R, valsR R) := m
  rw [m']
theorem kD_R (R : Rods) : (keysR R).map kD = R.map fun p => .int p.1 := by unfold keysR; rw [List.map_map]; rfl
theorem half {n : Nat} {i : Int} (h0 : 0 ≤ i) (hi : i ≤ n) : 0 ≤ i / 2 ∧ i / 2 ≤ n := by omega
theorem v_mirrored_counts {R : Rods} (h : V R) {n : Nat} (hn : n ≤ 298) : F_mirrored_counts [dR R, .int n] = some (.tup (iD (mirL R (cl R n) (n + 1)))) := by
  have hn' : n ≤ 299 := by omega
  refine runV_wp ?_
  show Wp _ [some (.p (dR R)), some (.p (.int n)), none, none, none, none, none, none] _
  refine wp_seq (wp_par (xs := [.p (.tup (iD (cl R n))), .o (.lst [])]) (δ1 := [some (.p (dR R)), some (.p (.int n)), none, none, none, none, none, none]) rfl (by simp [sSeq, sDrop, sIf, sRet, sRetO, sRetN, sSet, sSetO, sPar, sApp, sPut, sAug, sNext, sBreak, eFn, oFn, eRef, eArgs, eArgs.dsOf, mP, mO, mNil, eVar, eC, eOp, oOp, eCall, oCall, eOwn, hVal, hName, Hd.d, slotD, aCons, aNil, hds, vals, oLst, eTup, eIf, eAnd, eOr, eNot, eNeg, gNeg, eIsN, eChain, bE, bAnd, bOr, bNot, bYes, eSl, oSl, pSo, pNo, iSeq, iRange, iEnumD, iZipD, Ct.d, Sl.d, ownC, putC, isBor, setN, runV, runR, runO, env0, headB, txN, txT, txsCons, txsNil, List.map, List.length, List.replicate, List.append, addI, subI, leI, ltI, gtI, geI, eqI, neI, g1, lenL, lenT, intI, v_counts h hn', lim]) rfl ?_)
  show Wp _ [some (.p (dR R)), some (.p (.int n)), some (.p (.tup (iD (cl R n)))), some (.o (.lst [])), none, none, none, none] _
  have c1 : c1 cList [dR R] = some (.lst (R.map tupI)) := rfl
  refine wp_seq (wp_setO (c := .dk (keysR R) (valsR R)) (δ1 := [some (.p (dR R)), some (.p (.int n)), some (.p (.tup (iD (cl R n)))), some (.o (.lst [])), none, none, none, none]) (by simp [sSeq, sDrop, sIf, sRet, sRetO, sRetN, sSet, sSetO, sPar, sApp, sPut, sAug, sNext, sBreak, eFn, oFn, eRef, eArgs, eArgs.dsOf, mP, mO, mNil, eVar, eC, eOp, oOp, eCall, oCall, eOwn, hVal, hName, Hd.d, slotD, aCons, aNil, hds, vals, oLst, eTup, eIf, eAnd, eOr, eNot, eNeg, gNeg, eIsN, eChain, bE, bAnd, bOr, bNot, bYes, eSl, oSl, pSo, pNo, iSeq, iRange, iEnumD, iZipD, Ct.d, Sl.d, ownC, putC, isBor, setN, runV, runR, runO, env0, headB, txN, txT, txsCons, txsNil, List.map, List.length, List.replicate, List.append, addI, subI, leI, ltI, gtI, geI, eqI, neI, g1, lenL, lenT, intI, c1, dict_R h]) rfl rfl ?_)
  have small2 : small 2 = true := small_le (k := 8) (by decide) (by decide) (by decide)
  refine wp_seq (wp_up (fun i δ => ∃ (m : Sl) (a b c : Option D), (m = .o (.dk (keysR R) (valsR R)) ∨ m = .p (.dk (keysR R) (valsR R))) ∧ δ = [some (.p (dR R)), some (.p (.int n)), some (.p (.tup (iD (cl R n)))), some (.o (.lst (iD (mirL R (cl R n) i)))), some m, a.map .p, b.map .p, c.map .p]) 0 (n + 1) (iR1 rfl rfl (by omega) (by omega) (by omega)) ⟨_, none, none, none, .inl rfl, rfl⟩ ?_ ?_)
  · rintro i δ hi ⟨m, a, b, c, hm, rfl⟩
    rw [Int.zero_add]
    refine ⟨[some (.p (dR R)), some (.p (.int n)), some (.p (.tup (iD (cl R n)))), some (.o (.lst (iD (mirL R (cl R n) i)))), some m, some (.p (.int i)), b.map .p, c.map .p], by cases a <;> rcases hm with rfl | rfl <;> simp [sSeq, sDrop, sIf, sRet, sRetO, sRetN, sSet, sSetO, sPar, sApp, sPut, sAug, sNext, sBreak, eFn, oFn, eRef, eArgs, eArgs.dsOf, mP, mO, mNil, eVar, eC, eOp, oOp, eCall, oCall, eOwn, hVal, hName, Hd.d, slotD, aCons, aNil, hds, vals, oLst, eTup, eIf, eAnd, eOr, eNot, eNeg, gNeg, eIsN, eChain, bE, bAnd, bOr, bNot, bYes, eSl, oSl, pSo, pNo, iSeq, iRange, iEnumD, iZipD, Ct.d, Sl.d, ownC, putC, isBor, setN, runV, runR, runO, env0, headB, txN, txT, txsCons, txsNil, List.map, List.length, List.replicate, List.append, addI, subI, leI, ltI, gtI, geI, eqI, neI, g1, lenL, lenT, intI], ?_⟩
    have st : (eIf (bE (eOp gEq (hVal (eOp gMod (hVal (eCall (g1 dInt) (aCons (hName 5) aNil))) (hVal (eC (.int 2))))) (hVal (eC (.int 0))))) (eOp gIx (hName 2) (hVal (eOp gDiv (hName 5) (hVal (eC (.int 2)))))) (eC (.int 0))) [some (.p (dR R)), some (.p (.int n)), some (.p (.tup (iD (cl R n)))), some (.o (.lst (iD (mirL R (cl R n) i)))), some m, some (.p (.int i)), b.map .p, c.map .p]
        = some (.int (if (i : Int) % 2 = 0 then atZ (cl R n) (i / 2) else 0), [some (.p (dR R)), some (.p (.int n)), some (.p (.tup (iD (cl R n)))), some (.o (.lst (iD (mirL R (cl R n) i)))), some m, some (.p (.int i)), b.map .p, c.map .p]) := by
      have m1 := modI (a := (i : Int)) (b := 2) (by decide)
      have d1 := divI (a := (i : Int)) (b := 2) (by decide) small2
      obtain ⟨y1, _⟩ := atZ_cl h hn' (i := (i : Int) / 2) (by omega) (by omega)
      by_cases c : (i : Int) % 2 = 0
      · simp [sSeq, sDrop, sIf, sRet, sRetO, sRetN, sSet, sSetO, sPar, sApp, sPut, sAug, sNext, sBreak, eFn, oFn, eRef, eArgs, eArgs.dsOf, mP, mO, mNil, eVar, eC, eOp, oOp, eCall, oCall, eOwn, hVal, hName, Hd.d, slotD, aCons, aNil, hds, vals, oLst, eTup, eIf, eAnd, eOr, eNot, eNeg, gNeg, eIsN, eChain, bE, bAnd, bOr, bNot, bYes, eSl, oSl, pSo, pNo, iSeq, iRange, iEnumD, iZipD, Ct.d, Sl.d, ownC, putC, isBor, setN, runV, runR, runO, env0, headB, txN, txT, txsCons, txsNil, List.map, List.length, List.replicate, List.append, addI, subI, leI, ltI, gtI, geI, eqI, neI, g1, lenL, lenT, intI, m1, d1, y1, c]
      · simp [sSeq, sDrop, sIf, sRet, sRetO, sRetN, sSet, sSetO, sPar, sApp, sPut, sAug, sNext, sBreak, eFn, oFn, eRef, eArgs, eArgs.dsOf, mP, mO, mNil, eVar, eC, eOp, oOp, eCall, oCall, eOwn, hVal, hName, Hd.d, slotD, aCons, aNil, hds, vals, oLst, eTup, eIf, eAnd, eOr, eNot, eNeg, gNeg, eIsN, eChain, bE, bAnd, bOr, bNot, bYes, eSl, oSl, pSo, pNo, iSeq, iRange, iEnumD, iZipD, Ct.d, Sl.d, ownC, putC, isBor, setN, runV, runR, runO, env0, headB, txN, txT, txsCons, txsNil, List.map, List.length, List.replicate, List.append, addI, subI, leI, ltI, gtI, geI, eqI, neI, g1, lenL, lenT, intI, m1, c]
    refine wp_seq (wp_set st (by cases b <;> rfl) (by cases b <;> rfl) ?_)
    show Wp _ [some (.p (dR R)), some (.p (.int n)), some (.p (.tup (iD (cl R n)))), some (.o (.lst (iD (mirL R (cl R n) i)))), some m, some (.p (.int i)), some (.p (.int (if (i : Int) % 2 = 0 then atZ (cl R n) (i / 2) else 0))), c.map .p] _
    -- for rod in middles
    have lp : Wp (sForK 4 (txN 7) (sIf (bAnd (bE (eOp gLe (hName 7) (hName 5))) (bE (eOp gEq (hVal (eOp gMod (hVal (eCall (g1 dInt) (aCons (hVal (eOp DL.gSub (hName 5) (hName 7))) aNil))) (hVal (eC (.int 2))))) (hVal (eC (.int 0)))))) (sAug (fun i j => i + j) 6 (eOp gMul (hVal (eOp gGet (hName 4) (hName 7))) (hVal (eOp gIx (hName 2) (hVal (eOp gDiv (hVal (eOp DL.gSub (hName 5) (hName 7))) (hVal (eC (.int 2))))))))) sNext))
        [some (.p (dR R)), some (.p (.int n)), some (.p (.tup (iD (cl R n)))), some (.o (.lst (iD (mirL R (cl R n) i)))), some m, some (.p (.int i)), some (.p (.int (if (i : Int) % 2 = 0 then atZ (cl R n) (i / 2) else 0))), c.map .p] fun f => ∃ c : Option D, f = .nx [some (.p (dR R)), some (.p (.int n)), some (.p (.tup (iD (cl R n)))), some (.o (.lst (iD (mirL R (cl R n) i)))), some (.p (.dk (keysR R) (valsR R))), some (.p (.int i)), some (.p (.int (midl R (cl R n) i))), c.map .p] := by
      have ev : eVar 4 [some (.p (dR R)), some (.p (.int n)), some (.p (.tup (iD (cl R n)))), some (.o (.lst (iD (mirL R (cl R n) i)))), some m, some (.p (.int i)), some (.p (.int (if (i : Int) % 2 = 0 then atZ (cl R n) (i / 2) else 0))), c.map .p] = some (.dk (keysR R) (valsR R), [some (.p (dR R)), some (.p (.int n)), some (.p (.tup (iD (cl R n)))), some (.o (.lst (iD (mirL R (cl R n) i)))), some (.p (.dk (keysR R) (valsR R))), some (.p (.int i)), some (.p (.int (if (i : Int) % 2 = 0 then atZ (cl R n) (i / 2) else 0))), c.map .p]) := by
        rcases hm with rfl | rfl <;> simp [sSeq, sDrop, sIf, sRet, sRetO, sRetN, sSet, sSetO, sPar, sApp, sPut, sAug, sNext, sBreak, eFn, oFn, eRef, eArgs, eArgs.dsOf, mP, mO, mNil, eVar, eC, eOp, oOp, eCall, oCall, eOwn, hVal, hName, Hd.d, slotD, aCons, aNil, hds, vals, oLst, eTup, eIf, eAnd, eOr, eNot, eNeg, gNeg, eIsN, eChain, bE, bAnd, bOr, bNot, bYes, eSl, oSl, pSo, pNo, iSeq, iRange, iEnumD, iZipD, Ct.d, Sl.d, ownC, putC, isBor, setN, runV, runR, runO, env0, headB, txN, txT, txsCons, txsNil, List.map, List.length, List.replicate, List.append, addI, subI, leI, ltI, gtI, geI, eqI, neI, g1, lenL, lenT, intI]
      obtain ⟨δ', e1, c', rfl⟩ := loopS_pre (tx := txN 7) (body := sIf (bAnd (bE (eOp gLe (hName 7) (hName 5))) (bE (eOp gEq (hVal (eOp gMod (hVal (eCall (g1 dInt) (aCons (hVal (eOp DL.gSub (hName 5) (hName 7))) aNil))) (hVal (eC (.int 2))))) (hVal (eC (.int 0)))))) (sAug (fun i j => i + j) 6 (eOp gMul (hVal (eOp gGet (hName 4) (hName 7))) (hVal (eOp gIx (hName 2) (hVal (eOp gDiv (hVal (eOp DL.gSub (hName 5) (hName 7))) (hVal (eC (.int 2))))))))) sNext)
        (fun p : Int × Int => D.int p.1) (fun xs δ => ∃ c : Option D, δ = [some (.p (dR R)), some (.p (.int n)), some (.p (.tup (iD (cl R n)))), some (.o (.lst (iD (mirL R (cl R n) i)))), some (.p (.dk (keysR R) (valsR R))), some (.p (.int i)), some (.p (.int (midl xs (cl R n) i))), c.map .p]) R [] [some (.p (dR R)), some (.p (.int n)), some (.p (.tup (iD (cl R n)))), some (.o (.lst (iD (mirL R (cl R n) i)))), some (.p (.dk (keysR R) (valsR R))), some (.p (.int i)), some (.p (.int (if (i : Int) % 2 = 0 then atZ (cl R n) (i / 2) else 0))), c.map .p]
        ⟨c, by simp [midl]⟩ (by
          rintro p x q δ e _ ⟨c, rfl⟩
          obtain ⟨l1, l2, l3, l4⟩ := h.lo x (by rw [show R = p ++ x :: q by simpa using e]; simp)
          have lk : gGet (.dk (keysR R) (valsR R)) (.int x.1) = some (.int x.2) := look_R h.inc x (by rw [show R = p ++ x :: q by simpa using e]; simp)
          have m1 := modI (a := (i : Int) - x.1) (b := 2) (by decide)
          have d1 := divI (a := (i : Int) - x.1) (b := 2) (by decide) small2
          by_cases cc : x.1 ≤ i ∧ ((i : Int) - x.1) % 2 = 0
          · obtain ⟨y1, y2, y3, y4⟩ := atZ_cl h hn' (i := ((i : Int) - x.1) / 2) (by omega) (by omega)
            have m2 := mulI (a := x.2) (small_le (k := 12) (by omega) (by omega) (by decide)) y2
            refine ⟨[some (.p (dR R)), some (.p (.int n)), some (.p (.tup (iD (cl R n)))), some (.o (.lst (iD (mirL R (cl R n) i)))), some (.p (.dk (keysR R) (valsR R))), some (.p (.int i)), some (.p (.int (midl p (cl R n) i))), some (.p (.int x.1))], .nx [some (.p (dR R)), some (.p (.int n)), some (.p (.tup (iD (cl R n)))), some (.o (.lst (iD (mirL R (cl R n) i)))), some (.p (.dk (keysR R) (valsR R))), some (.p (.int i)), some (.p (.int (midl p (cl R n) i + x.2 * atZ (cl R n) (((i : Int) - x.1) / 2)))), some (.p (.int x.1))], [some (.p (dR R)), some (.p (.int n)), some (.p (.tup (iD (cl R n)))), some (.o (.lst (iD (mirL R (cl R n) i)))), some (.p (.dk (keysR R) (valsR R))), some (.p (.int i)), some (.p (.int (midl p (cl R n) i + x.2 * atZ (cl R n) (((i : Int) - x.1) / 2)))), some (.p (.int x.1))], by cases c <;> simp [sSeq, sDrop, sIf, sRet, sRetO, sRetN, sSet, sSetO, sPar, sApp, sPut, sAug, sNext, sBreak, eFn, oFn, eRef, eArgs, eArgs.dsOf, mP, mO, mNil, eVar, eC, eOp, oOp, eCall, oCall, eOwn, hVal, hName, Hd.d, slotD, aCons, aNil, hds, vals, oLst, eTup, eIf, eAnd, eOr, eNot, eNeg, gNeg, eIsN, eChain, bE, bAnd, bOr, bNot, bYes, eSl, oSl, pSo, pNo, iSeq, iRange, iEnumD, iZipD, Ct.d, Sl.d, ownC, putC, isBor, setN, runV, runR, runO, env0, headB, txN, txT, txsCons, txsNil, List.map, List.length, List.replicate, List.append, addI, subI, leI, ltI, gtI, geI, eqI, neI, g1, lenL, lenT, intI], ?_, .inl rfl, some (.int x.1), ?_⟩
            · simp [sSeq, sDrop, sIf, sRet, sRetO, sRetN, sSet, sSetO, sPar, sApp, sPut, sAug, sNext, sBreak, eFn, oFn, eRef, eArgs, eArgs.dsOf, mP, mO, mNil, eVar, eC, eOp, oOp, eCall, oCall, eOwn, hVal, hName, Hd.d, slotD, aCons, aNil, hds, vals, oLst, eTup, eIf, eAnd, eOr, eNot, eNeg, gNeg, eIsN, eChain, bE, bAnd, bOr, bNot, bYes, eSl, oSl, pSo, pNo, iSeq, iRange, iEnumD, iZipD, Ct.d, Sl.d, ownC, putC, isBor, setN, runV, runR, runO, env0, headB, txN, txT, txsCons, txsNil, List.map, List.length, List.replicate, List.append, addI, subI, leI, ltI, gtI, geI, eqI, neI, g1, lenL, lenT, intI, cc, m1, d1, y1, lk, m2]
            · unfold midl
              rw [mid_snoc, if_pos cc, Int.add_assoc]; rfl
          · refine ⟨[some (.p (dR R)), some (.p (.int n)), some (.p (.tup (iD (cl R n)))), some (.o (.lst (iD (mirL R (cl R n) i)))), some (.p (.dk (keysR R) (valsR R))), some (.p (.int i)), some (.p (.int (midl p (cl R n) i))), some (.p (.int x.1))], .nx [some (.p (dR R)), some (.p (.int n)), some (.p (.tup (iD (cl R n)))), some (.o (.lst (iD (mirL R (cl R n) i)))), some (.p (.dk (keysR R) (valsR R))), some (.p (.int i)), some (.p (.int (midl p (cl R n) i))), some (.p (.int x.1))], [some (.p (dR R)), some (.p (.int n)), some (.p (.tup (iD (cl R n)))), some (.o (.lst (iD (mirL R (cl R n) i)))), some (.p (.dk (keysR R) (valsR R))), some (.p (.int i)), some (.p (.int (midl p (cl R n) i))), some (.p (.int x.1))], by cases c <;> simp [sSeq, sDrop, sIf, sRet, sRetO, sRetN, sSet, sSetO, sPar, sApp, sPut, sAug, sNext, sBreak, eFn, oFn, eRef, eArgs, eArgs.dsOf, mP, mO, mNil, eVar, eC, eOp, oOp, eCall, oCall, eOwn, hVal, hName, Hd.d, slotD, aCons, aNil, hds, vals, oLst, eTup, eIf, eAnd, eOr, eNot, eNeg, gNeg, eIsN, eChain, bE, bAnd, bOr, bNot, bYes, eSl, oSl, pSo, pNo, iSeq, iRange, iEnumD, iZipD, Ct.d, Sl.d, ownC, putC, isBor, setN, runV, runR, runO, env0, headB, txN, txT, txsCons, txsNil, List.map, List.length, List.replicate, List.append, addI, subI, leI, ltI, gtI, geI, eqI, neI, g1, lenL, lenT, intI], ?_, .inl rfl, some (.int x.1), ?_⟩
            · by_cases c1 : x.1 ≤ (i : Int)
              · have c2 : ¬ ((i : Int) - x.1) % 2 = 0 := fun z => cc ⟨c1, z⟩
                simp [sSeq, sDrop, sIf, sRet, sRetO, sRetN, sSet, sSetO, sPar, sApp, sPut, sAug, sNext, sBreak, eFn, oFn, eRef, eArgs, eArgs.dsOf, mP, mO, mNil, eVar, eC, eOp, oOp, eCall, oCall, eOwn, hVal, hName, Hd.d, slotD, aCons, aNil, hds, vals, oLst, eTup, eIf, eAnd, eOr, eNot, eNeg, gNeg, eIsN, eChain, bE, bAnd, bOr, bNot, bYes, eSl, oSl, pSo, pNo, iSeq, iRange, iEnumD, iZipD, Ct.d, Sl.d, ownC, putC, isBor, setN, runV, runR, runO, env0, headB, txN, txT, txsCons, txsNil, List.map, List.length, List.replicate, List.append, addI, subI, leI, ltI, gtI, geI, eqI, neI, g1, lenL, lenT, intI, c1, m1, c2]
              · simp [sSeq, sDrop, sIf, sRet, sRetO, sRetN, sSet, sSetO, sPar, sApp, sPut, sAug, sNext, sBreak, eFn, oFn, eRef, eArgs, eArgs.dsOf, mP, mO, mNil, eVar, eC, eOp, oOp, eCall, oCall, eOwn, hVal, hName, Hd.d, slotD, aCons, aNil, hds, vals, oLst, eTup, eIf, eAnd, eOr, eNot, eNeg, gNeg, eIsN, eChain, bE, bAnd, bOr, bNot, bYes, eSl, oSl, pSo, pNo, iSeq, iRange, iEnumD, iZipD, Ct.d, Sl.d, ownC, putC, isBor, setN, runV, runR, runO, env0, headB, txN, txT, txsCons, txsNil, List.map, List.length, List.replicate, List.append, addI, subI, leI, ltI, gtI, geI, eqI, neI, g1, lenL, lenT, intI, c1]
            · unfold midl
              rw [mid_snoc, if_neg cc, Int.add_zero]; rfl)
      refine ⟨_, ?_, c', rfl⟩
      unfold sForK
      rw [ev]
      show loopS _ _ ((keysR R).map kD) _ = _
      rw [kD_R]
      exact e1
    refine wp_seq (lp.mono ?_)
    rintro f ⟨c, rfl⟩
    refine wp_app rfl rfl rfl (by rw [iD_len, mirL_len]; simp [lim]; omega) ⟨_, .inl rfl, _, some (.int i), some (.int (midl R (cl R n) i)), c, .inr rfl, ?_⟩
    rw [mirL_succ]; rfl
  · rintro δ' ⟨m, a, b, c, hm, rfl⟩
    refine wp_ret (δ1 := [some (.p (dR R)), some (.p (.int n)), some (.p (.tup (iD (cl R n)))), some (.o (.lst (iD (mirL R (cl R n) (n + 1))))), some m, a.map .p, b.map .p, c.map .p]) ?_ (.inl ⟨_, rfl⟩)
    rfl
end K15

namespace K15
open PySem PySem.Spec PyProof.Rows L2 DL
theorem v__law_like {d : D} (h : Told d) : F__law_like [d, d] = some (.bl true) := by
  obtain ⟨s, e⟩ := repr_told h
  refine runV_wp ?_
  show Wp _ [some (.p d), some (.p d)] _
  refine wp_ret (δ1 := [some (.p d), some (.p d)]) ?_ (.inl ⟨_, rfl⟩)
  simp [sSeq, sDrop, sIf, sRet, sRetO, sRetN, sSet, sSetO, sPar, sApp, sPut, sAug, sNext, sBreak, eFn, oFn, eRef, eArgs, eArgs.dsOf, mP, mO, mNil, eVar, eC, eOp, oOp, eCall, oCall, eOwn, hVal, hName, Hd.d, slotD, aCons, aNil, hds, vals, oLst, eTup, eIf, eAnd, eOr, eNot, eNeg, gNeg, eIsN, eChain, bE, bAnd, bOr, bNot, bYes, eSl, oSl, pSo, pNo, iSeq, iRange, iEnumD, iZipD, Ct.d, Sl.d, ownC, putC, isBor, setN, runV, runR, runO, env0, headB, txN, txT, txsCons, txsNil, List.map, List.length, List.replicate, List.append, addI, subI, leI, ltI, gtI, geI, eqI, neI, g1, lenL, lenT, intI, e, DL.eq_str]
def unlL (R : Rods) (n : Nat) : List Int := ((cl R n).zip (mirL R (cl R n) (n + 1))).map fun q => (q.1 + q.2) / 2
theorem small2 : small 2 = true := small_le (k := 8) (by decide) (by decide) (by decide)
theorem iD_map {α : Type} (f : α → Int) (xs : List α) : iD (xs.map f) = xs.map fun x => .int (f x) := by unfold iD; rw [List.map_map]; rfl
theorem atZ_row {R : Rods} (h : V R) {n : Nat} (hn : n ≤ 299) {i : Int} (h0 : 0 ≤ i) (hi : i ≤ n) : gIx (.lst (iD (cl R n))) (.int i) = some (.int (atZ (cl R n) i)) := ixL h0 (by rw [cl_len]; omega)
theorem v_unlike_counts {R : Rods} (h : V R) {n : Nat} (hn : n ≤ 298) : F_unlike_counts [dR R, .int n] = some (.tup (iD (unlL R n))) := by
  refine runV_wp ?_
  show Wp _ [some (.p (dR R)), some (.p (.int n)), none, none, none, none] _
  refine wp_seq (wp_par (xs := [.p (.tup (iD (cl R n))), .p (.tup (iD (mirL R (cl R n) (n + 1))))]) (δ1 := [some (.p (dR R)), some (.p (.int n)), none, none, none, none]) rfl (by simp [sSeq, sDrop, sIf, sRet, sRetO, sRetN, sSet, sSetO, sPar, sApp, sPut, sAug, sNext, sBreak, eFn, oFn, eRef, eArgs, eArgs.dsOf, mP, mO, mNil, eVar, eC, eOp, oOp, eCall, oCall, eOwn, hVal, hName, Hd.d, slotD, aCons, aNil, hds, vals, oLst, eTup, eIf, eAnd, eOr, eNot, eNeg, gNeg, eIsN, eChain, bE, bAnd, bOr, bNot, bYes, eSl, oSl, pSo, pNo, iSeq, iRange, iEnumD, iZipD, Ct.d, Sl.d, ownC, putC, isBor, setN, runV, runR, runO, env0, headB, txN, txT, txsCons, txsNil, List.map, List.length, List.replicate, List.append, addI, subI, leI, ltI, gtI, geI, eqI, neI, g1, lenL, lenT, intI, v_counts h (show n ≤ 299 by omega), v_mirrored_counts h hn]) rfl ?_)
  show Wp _ [some (.p (dR R)), some (.p (.int n)), some (.p (.tup (iD (cl R n)))), some (.p (.tup (iD (mirL R (cl R n) (n + 1))))), none, none] _
  have lc : oLc (iZipD (eVar 2) (eVar 3)) (txT 2 (txsCons (txN 4) (txsCons (txN 5) txsNil))) bYes (eOp gDiv (hVal (eOp gAdd (hName 4) (hName 5))) (hVal (eC (.int 2)))) [4, 5] [some (.p (dR R)), some (.p (.int n)), some (.p (.tup (iD (cl R n)))), some (.p (.tup (iD (mirL R (cl R n) (n + 1))))), none, none]
      = some (.lst (iD (unlL R n)), [some (.p (dR R)), some (.p (.int n)), some (.p (.tup (iD (cl R n)))), some (.p (.tup (iD (mirL R (cl R n) (n + 1))))), none, none]) := by
    unfold unlL
    rw [iD_map, ← fmap_some]
    refine oLc_pure (fun q : Int × Int => .tup [.int q.1, .int q.2]) _ ((cl R n).zip (mirL R (cl R n) (n + 1))) ?_ rfl rfl rfl ?_ ?_
    · have z : zip2 (.tup (iD (cl R n))) (.tup (iD (mirL R (cl R n) (n + 1)))) = some (((cl R n).zip (mirL R (cl R n) (n + 1))).map fun q => .tup [.int q.1, .int q.2]) := by
        show some (zipD (iD _) (iD _)) = _
        unfold iD
        rw [zipD_map]
      simp [sSeq, sDrop, sIf, sRet, sRetO, sRetN, sSet, sSetO, sPar, sApp, sPut, sAug, sNext, sBreak, eFn, oFn, eRef, eArgs, eArgs.dsOf, mP, mO, mNil, eVar, eC, eOp, oOp, eCall, oCall, eOwn, hVal, hName, Hd.d, slotD, aCons, aNil, hds, vals, oLst, eTup, eIf, eAnd, eOr, eNot, eNeg, gNeg, eIsN, eChain, bE, bAnd, bOr, bNot, bYes, eSl, oSl, pSo, pNo, iSeq, iRange, iEnumD, iZipD, Ct.d, Sl.d, ownC, putC, isBor, setN, runV, runR, runO, env0, headB, txN, txT, txsCons, txsNil, List.map, List.length, List.replicate, List.append, addI, subI, leI, ltI, gtI, geI, eqI, neI, g1, lenL, lenT, intI, z]
    · intro q hq
      refine ⟨[some (.p (dR R)), some (.p (.int n)), some (.p (.tup (iD (cl R n)))), some (.p (.tup (iD (mirL R (cl R n) (n + 1))))), some (.p (.int q.1)), some (.p (.int q.2))], by simp [sSeq, sDrop, sIf, sRet, sRetO, sRetN, sSet, sSetO, sPar, sApp, sPut, sAug, sNext, sBreak, eFn, oFn, eRef, eArgs, eArgs.dsOf, mP, mO, mNil, eVar, eC, eOp, oOp, eCall, oCall, eOwn, hVal, hName, Hd.d, slotD, aCons, aNil, hds, vals, oLst, eTup, eIf, eAnd, eOr, eNot, eNeg, gNeg, eIsN, eChain, bE, bAnd, bOr, bNot, bYes, eSl, oSl, pSo, pNo, iSeq, iRange, iEnumD, iZipD, Ct.d, Sl.d, ownC, putC, isBor, setN, runV, runR, runO, env0, headB, txN, txT, txsCons, txsNil, List.map, List.length, List.replicate, List.append, addI, subI, leI, ltI, gtI, geI, eqI, neI, g1, lenL, lenT, intI], .inr ⟨_, _, [some (.p (dR R)), some (.p (.int n)), some (.p (.tup (iD (cl R n)))), some (.p (.tup (iD (mirL R (cl R n) (n + 1))))), some (.p (.int q.1)), some (.p (.int q.2))], rfl, rfl, ?_, rfl⟩⟩
      simp [sSeq, sDrop, sIf, sRet, sRetO, sRetN, sSet, sSetO, sPar, sApp, sPut, sAug, sNext, sBreak, eFn, oFn, eRef, eArgs, eArgs.dsOf, mP, mO, mNil, eVar, eC, eOp, oOp, eCall, oCall, eOwn, hVal, hName, Hd.d, slotD, aCons, aNil, hds, vals, oLst, eTup, eIf, eAnd, eOr, eNot, eNeg, gNeg, eIsN, eChain, bE, bAnd, bOr, bNot, bYes, eSl, oSl, pSo, pNo, iSeq, iRange, iEnumD, iZipD, Ct.d, Sl.d, ownC, putC, isBor, setN, runV, runR, runO, env0, headB, txN, txT, txsCons, txsNil, List.map, List.length, List.replicate, List.append, addI, subI, leI, ltI, gtI, geI, eqI, neI, g1, lenL, lenT, intI, divI (a := q.1 + q.2) (b := 2) (by decide) small2]
    · rw [List.length_zip, cl_len, mirL_len]; simp [lim]; omega
  refine wp_ret (δ1 := [some (.p (dR R)), some (.p (.int n)), some (.p (.tup (iD (cl R n)))), some (.p (.tup (iD (mirL R (cl R n) (n + 1))))), none, none]) ?_ (.inl ⟨_, rfl⟩)
  have e0 : ∀ (o : OX) (δ : DEnv) (bs : List D), o δ = some (.lst bs, δ) → eCall (g1 dTuple) (aCons (hVal (eOwn o)) aNil) δ = some (.tup bs, δ) := fun o δ bs h1 => by
    simp [eCall, aCons, hVal, eOwn, h1, aNil, hds, Hd.d, Ct.d, g1, dTuple]
  exact e0 _ _ _ lc
/-! ### bounds -/
theorem sum_bd {xs : List Int} {B : Int} {m : Nat} (h : ∀ x ∈ xs, 0 ≤ x ∧ x ≤ B) (hm : xs.length ≤ m) (hB : 0 ≤ B) : 0 ≤ xs.sum ∧ xs.sum ≤ m * B := by
  obtain ⟨a, b⟩ := sum_le h
  exact ⟨a, Int.le_trans b (Int.mul_le_mul_of_nonneg_right (by omega) hB)⟩
theorem big_ok : (8 : Int) * (60 * 9 * 72 ^ 299) + 72 ^ 299 < 2 ^ 1900 := by decide +kernel
theorem cl_val {R : Rods} (h : V R) {n : Nat} (hn : n ≤ 299) {i : Int} (h0 : 0 ≤ i) (hi : i ≤ n) : 0 ≤ atZ (cl R n) i ∧ atZ (cl R n) i ≤ 72 ^ 299 := by
  obtain ⟨b1, b2⟩ := cl_bound h n i h0 hi
  exact ⟨b1, Int.le_trans b2 (p72 (by omega))⟩
theorem mid_val {R : Rods} (h : V R) {n : Nat} (hn : n ≤ 299) {i : Int} (h0 : 0 ≤ i) (hi : i ≤ n) : 0 ≤ midl R (cl R n) i ∧ midl R (cl R n) i ≤ 8 * (9 * 72 ^ 299) + 72 ^ 299 := by
  have p0 : (0 : Int) ≤ 72 ^ 299 := Int.pow_nonneg (by decide)
  have b : ∀ x ∈ R.filterMap (midT (cl R n) i), 0 ≤ x ∧ x ≤ 9 * 72 ^ 299 := fun x hx => by
    obtain ⟨p, hp, e⟩ := List.mem_filterMap.mp hx
    obtain ⟨l1, l2, l3, l4⟩ := h.lo p hp
    unfold midT at e
    split at e
    · rename_i c
      cases e
      obtain ⟨a1, a2⟩ := cl_val h hn (i := (i - p.1) / 2) (by omega) (by omega)
      exact ⟨Int.mul_nonneg (by omega) a1, Int.le_trans (Int.mul_le_mul_of_nonneg_right l4 a1) (Int.mul_le_mul_of_nonneg_left a2 (by decide))⟩
    · cases e
  obtain ⟨s1, s2⟩ := sum_bd b (m := 8) (Nat.le_trans (List.length_filterMap_le _ _) h.len) (by omega)
  obtain ⟨a1, a2⟩ := cl_val h hn (i := i / 2) (by omega) (by omega)
  unfold midl
  split <;> omega
theorem rd_val {R : Rods} (h : V R) {n : Nat} (hn : n ≤ 299) {i : Int} (h0 : 0 ≤ i) (hi : i ≤ n) : 0 ≤ rd_ R n i ∧ rd_ R n i ≤ 8 * (60 * 9 * 72 ^ 299) := by
  have p0 : (0 : Int) ≤ 72 ^ 299 := Int.pow_nonneg (by decide)
  have b : ∀ x ∈ fit R i (fun p => p.1 * p.2 * atZ (cl R n) (i - p.1)), 0 ≤ x ∧ x ≤ 60 * 9 * 72 ^ 299 := fun x hx => by
    obtain ⟨p, hp, c, rfl⟩ := fit_mem hx
    obtain ⟨l1, l2, l3, l4⟩ := h.lo p hp
    obtain ⟨a1, a2⟩ := cl_val h hn (i := i - p.1) (by omega) (by omega)
    have b1 : 0 ≤ p.1 * p.2 := Int.mul_nonneg (by omega) (by omega)
    have b2 : p.1 * p.2 ≤ 60 * 9 := Int.le_trans (Int.mul_le_mul_of_nonneg_right l2 (by omega)) (Int.mul_le_mul_of_nonneg_left l4 (by decide))
    exact ⟨Int.mul_nonneg b1 a1, Int.le_trans (Int.mul_le_mul_of_nonneg_right b2 a1) (Int.mul_le_mul_of_nonneg_left a2 (by decide))⟩
  exact sum_bd b (m := 8) (Nat.le_trans (fit_len _ _ _) h.len) (by omega)
theorem log_big {i : Int} (h0 : 0 ≤ i) (h : i ≤ 8 * (60 * 9 * 72 ^ 299) + 72 ^ 299) : i.natAbs.log2 < 1920 := log_le (k := 1900) h0 (Int.lt_of_le_of_lt h big_ok) (by decide) (by decide)
theorem cl_mem {R : Rods} {n : Nat} {x : Int} (hx : x ∈ cl R n) : ∃ i : Int, 0 ≤ i ∧ i ≤ n ∧ x = atZ (cl R n) i := by
  obtain ⟨j, hj, e⟩ := List.getElem_of_mem hx
  rw [cl_len] at hj
  refine ⟨j, by omega, by omega, ?_⟩
  unfold atZ
  rw [List.getD_eq_getElem?_getD]
  simp [e, cl_len, hj]
theorem log_cl {R : Rods} (h : V R) {n : Nat} (hn : n ≤ 299) : ∀ x ∈ cl R n, x.natAbs.log2 < 1920 := fun x hx => by
  obtain ⟨i, h0, h1, rfl⟩ := cl_mem hx
  obtain ⟨a, b⟩ := cl_val h hn h0 h1
  have p0 : (0 : Int) ≤ 72 ^ 299 := Int.pow_nonneg (by decide)
  exact log_big a (by omega)
theorem log_mir {R : Rods} (h : V R) {n : Nat} (hn : n ≤ 299) : ∀ x ∈ mirL R (cl R n) (n + 1), x.natAbs.log2 < 1920 := fun x hx => by
  obtain ⟨j, hj, rfl⟩ := List.mem_map.mp hx
  have hj := List.mem_range.mp hj
  obtain ⟨a, b⟩ := mid_val h hn (i := j) (by omega) (by omega)
  have p0 : (0 : Int) ≤ 72 ^ 299 := Int.pow_nonneg (by decide)
  exact log_big a (by omega)
theorem log_rd {R : Rods} (h : V R) {n : Nat} (hn : n ≤ 299) : ∀ x ∈ rdl R n, x.natAbs.log2 < 1920 := fun x hx => by
  obtain ⟨j, hj, rfl⟩ := List.mem_map.mp hx
  have hj := List.mem_range.mp hj
  obtain ⟨a, b⟩ := rd_val h hn (i := 1 + j) (by omega) (by omega)
  have p0 : (0 : Int) ≤ 72 ^ 299 := Int.pow_nonneg (by decide)
  exact log_big a (by omega)
theorem log_unl {R : Rods} (h : V R) {n : Nat} (hn : n ≤ 299) : ∀ x ∈ unlL R n, x.natAbs.log2 < 1920 := fun x hx => by
  obtain ⟨q, hq, rfl⟩ := List.mem_map.mp hx
  have h1 := (List.of_mem_zip hq).1
  have h2 := (List.of_mem_zip hq).2
  obtain ⟨i, i0, i1, e1⟩ := cl_mem h1
  obtain ⟨a1, b1⟩ := cl_val h hn i0 i1
  obtain ⟨j, hj, e2⟩ := List.mem_map.mp h2
  have hj := List.mem_range.mp hj
  obtain ⟨a2, b2⟩ := mid_val h hn (i := j) (by omega) (by omega)
  have p0 : (0 : Int) ≤ 72 ^ 299 := Int.pow_nonneg (by decide)
  exact log_big (by omega) (by omega)
theorem unl_len (R : Rods) (n : Nat) : (unlL R n).length = n + 1 := by unfold unlL; rw [List.length_map, List.length_zip, cl_len, mirL_len]; omega
/-- the four rows told -/
def rows4 (R : Rods) (n : Nat) : D := .lst [.lst (iD (cl R n)), .lst (iD (mirL R (cl R n) (n + 1))), .lst (iD (unlL R n)), .lst (iD (rdl R n))]
theorem told4 {R : Rods} (h : V R) {n : Nat} (hn : n ≤ 299) : Told (rows4 R n) := by
  refine ⟨(1924 * (n + 1) + 3 + 2 + (1924 * (n + 1) + 3 + 2 + (1924 * (n + 1) + 3 + 2 + (1924 * n + 3 + 2 + 0)))) + 3, ?_, ?_, ?_⟩
  · have r : (rdl R n).length = n := rdL_len R n n
    simp only [rows4, wt, wtA, wt_ints (log_cl h hn), wt_ints (log_mir h hn), wt_ints (log_unl h hn), wt_ints (log_rd h hn), Option.map_some, Option.bind_some, cl_len, mirL_len, unl_len, r]
  · simp [lim]; omega
  · simp [rows4, dp, dpA, dp_ints]
end K15

namespace K15
open PySem PySem.Spec PyProof.Rows L2 DL
def lstI (p : Int × Int) : D := .lst [.int p.1, .int p.2]
abbrev eMid : EX := eIf (bE (eOp gEq (hVal (eOp gMod (hVal (eCall (g1 dInt) (aCons (hName 8) aNil))) (hVal (eC (.int 2))))) (hVal (eC (.int 0))))) (eOp gIx (hName 3) (hVal (eOp gDiv (hName 8) (hVal (eC (.int 2)))))) (eC (.int 0))
abbrev sMid : SX := sIf (bAnd (bE (eOp gLe (hName 5) (hName 8))) (bE (eOp gEq (hVal (eOp gMod (hVal (eCall (g1 dInt) (aCons (hVal (eOp DL.gSub (hName 8) (hName 5))) aNil))) (hVal (eC (.int 2))))) (hVal (eC (.int 0)))))) (sSet 9 (eOp gAdd (hName 9) (hVal (eOp gMul (hName 6) (hVal (eOp gIx (hName 3) (hVal (eOp gDiv (hVal (eOp DL.gSub (hName 8) (hName 5))) (hVal (eC (.int 2))))))))))) sNext
theorem mid_turn {R : Rods} (h : V R) {n : Nat} (hn' : n ≤ 299) (hd : Ct) {i : Nat} (hi : i < n + 1) (e : Sl) (a b d : Option D) (he : e = .o (.lst (R.map lstI)) ∨ e = .p (.lst (R.map lstI))) :
    Wp (sSeq (sSet 9 eMid) (sSeq (sFor (iSeq (eVar 4)) (txT 2 (txsCons (txN 5) (txsCons (txN 6) txsNil))) sMid) (sApp 7 (eVar 9)))) [some (.b hd), some (.p (dR R)), some (.p (.int n)), some (.p (.lst (iD (cl R n)))), some e, a.map .p, b.map .p, some (.o (.lst (iD (mirL R (cl R n) i)))), some (.p (.int i)), d.map .p, none, none, none, none, none]
      fun f => ∃ a b : Option D, f = .nx [some (.b hd), some (.p (dR R)), some (.p (.int n)), some (.p (.lst (iD (cl R n)))), some (.p (.lst (R.map lstI))), a.map .p, b.map .p, some (.o (.lst (iD (mirL R (cl R n) (i + 1))))), some (.p (.int i)), some (.p (.int (midl R (cl R n) i))), none, none, none, none, none] := by
  have st : eMid [some (.b hd), some (.p (dR R)), some (.p (.int n)), some (.p (.lst (iD (cl R n)))), some e, a.map .p, b.map .p, some (.o (.lst (iD (mirL R (cl R n) i)))), some (.p (.int i)), d.map .p, none, none, none, none, none]
      = some (.int (if (i : Int) % 2 = 0 then atZ (cl R n) (i / 2) else 0), [some (.b hd), some (.p (dR R)), some (.p (.int n)), some (.p (.lst (iD (cl R n)))), some e, a.map .p, b.map .p, some (.o (.lst (iD (mirL R (cl R n) i)))), some (.p (.int i)), d.map .p, none, none, none, none, none]) := by
    have m1 := modI (a := (i : Int)) (b := 2) (by decide)
    have d1 := divI (a := (i : Int)) (b := 2) (by decide) small2
    have y1 := atZ_row h hn' (i := (i : Int) / 2) (by omega) (by omega)
    by_cases c : (i : Int) % 2 = 0
    · simp [sSeq, sDrop, sIf, sRet, sRetO, sRetN, sSet, sSetO, sPar, sApp, sPut, sAug, sNext, sBreak, eFn, oFn, eRef, eArgs, eArgs.dsOf, mP, mO, mNil, eVar, eC, eOp, oOp, eCall, oCall, eOwn, hVal, hName, Hd.d, slotD, aCons, aNil, hds, vals, oLst, eTup, eIf, eAnd, eOr, eNot, eNeg, gNeg, eIsN, eChain, bE, bAnd, bOr, bNot, bYes, eSl, oSl, pSo, pNo, iSeq, iRange, iEnumD, iZipD, Ct.d, Sl.d, ownC, putC, isBor, setN, runV, runR, runO, env0, headB, txN, txT, txsCons, txsNil, List.map, List.length, List.replicate, List.append, addI, subI, leI, ltI, gtI, geI, eqI, neI, g1, lenL, lenT, intI, m1, d1, y1, c]
    · simp [sSeq, sDrop, sIf, sRet, sRetO, sRetN, sSet, sSetO, sPar, sApp, sPut, sAug, sNext, sBreak, eFn, oFn, eRef, eArgs, eArgs.dsOf, mP, mO, mNil, eVar, eC, eOp, oOp, eCall, oCall, eOwn, hVal, hName, Hd.d, slotD, aCons, aNil, hds, vals, oLst, eTup, eIf, eAnd, eOr, eNot, eNeg, gNeg, eIsN, eChain, bE, bAnd, bOr, bNot, bYes, eSl, oSl, pSo, pNo, iSeq, iRange, iEnumD, iZipD, Ct.d, Sl.d, ownC, putC, isBor, setN, runV, runR, runO, env0, headB, txN, txT, txsCons, txsNil, List.map, List.length, List.replicate, List.append, addI, subI, leI, ltI, gtI, geI, eqI, neI, g1, lenL, lenT, intI, m1, c]
  refine wp_seq (wp_set st (by cases d <;> rfl) (by cases d <;> rfl) ?_)
  show Wp _ [some (.b hd), some (.p (dR R)), some (.p (.int n)), some (.p (.lst (iD (cl R n)))), some e, a.map .p, b.map .p, some (.o (.lst (iD (mirL R (cl R n) i)))), some (.p (.int i)), some (.p (.int (if (i : Int) % 2 = 0 then atZ (cl R n) (i / 2) else 0))), none, none, none, none, none] _
  refine wp_seq (wp_for (δ1 := [some (.b hd), some (.p (dR R)), some (.p (.int n)), some (.p (.lst (iD (cl R n)))), some (.p (.lst (R.map lstI))), a.map .p, b.map .p, some (.o (.lst (iD (mirL R (cl R n) i)))), some (.p (.int i)), some (.p (.int (if (i : Int) % 2 = 0 then atZ (cl R n) (i / 2) else 0))), none, none, none, none, none]) lstI (fun xs δ => ∃ a b : Option D, δ = [some (.b hd), some (.p (dR R)), some (.p (.int n)), some (.p (.lst (iD (cl R n)))), some (.p (.lst (R.map lstI))), a.map .p, b.map .p, some (.o (.lst (iD (mirL R (cl R n) i)))), some (.p (.int i)), some (.p (.int (midl xs (cl R n) i))), none, none, none, none, none]) R (by rcases he with rfl | rfl <;> rfl) ⟨a, b, by simp [midl]⟩ ?_ ?_)
  · rintro p x q δ e ⟨a, b, rfl⟩
    obtain ⟨l1, l2, l3, l4⟩ := h.lo x (by rw [e]; simp)
    refine ⟨[some (.b hd), some (.p (dR R)), some (.p (.int n)), some (.p (.lst (iD (cl R n)))), some (.p (.lst (R.map lstI))), some (.p (.int x.1)), some (.p (.int x.2)), some (.o (.lst (iD (mirL R (cl R n) i)))), some (.p (.int i)), some (.p (.int (midl p (cl R n) i))), none, none, none, none, none], by cases a <;> cases b <;> simp [sSeq, sDrop, sIf, sRet, sRetO, sRetN, sSet, sSetO, sPar, sApp, sPut, sAug, sNext, sBreak, eFn, oFn, eRef, eArgs, eArgs.dsOf, mP, mO, mNil, eVar, eC, eOp, oOp, eCall, oCall, eOwn, hVal, hName, Hd.d, slotD, aCons, aNil, hds, vals, oLst, eTup, eIf, eAnd, eOr, eNot, eNeg, gNeg, eIsN, eChain, bE, bAnd, bOr, bNot, bYes, eSl, oSl, pSo, pNo, iSeq, iRange, iEnumD, iZipD, Ct.d, Sl.d, ownC, putC, isBor, setN, runV, runR, runO, env0, headB, txN, txT, txsCons, txsNil, List.map, List.length, List.replicate, List.append, addI, subI, leI, ltI, gtI, geI, eqI, neI, g1, lenL, lenT, intI, lstI], ?_⟩
    have m1 := modI (a := (i : Int) - x.1) (b := 2) (by decide)
    have d1 := divI (a := (i : Int) - x.1) (b := 2) (by decide) small2
    by_cases cc : x.1 ≤ i ∧ ((i : Int) - x.1) % 2 = 0
    · have y1 := atZ_row h hn' (i := ((i : Int) - x.1) / 2) (by omega) (by omega)
      obtain ⟨_, y2, _⟩ := atZ_cl h hn' (i := ((i : Int) - x.1) / 2) (by omega) (by omega)
      have m2 := mulI (a := x.2) (small_le (k := 12) (by omega) (by omega) (by decide)) y2
      refine wp_t (δ1 := [some (.b hd), some (.p (dR R)), some (.p (.int n)), some (.p (.lst (iD (cl R n)))), some (.p (.lst (R.map lstI))), some (.p (.int x.1)), some (.p (.int x.2)), some (.o (.lst (iD (mirL R (cl R n) i)))), some (.p (.int i)), some (.p (.int (midl p (cl R n) i))), none, none, none, none, none]) (by simp [sSeq, sDrop, sIf, sRet, sRetO, sRetN, sSet, sSetO, sPar, sApp, sPut, sAug, sNext, sBreak, eFn, oFn, eRef, eArgs, eArgs.dsOf, mP, mO, mNil, eVar, eC, eOp, oOp, eCall, oCall, eOwn, hVal, hName, Hd.d, slotD, aCons, aNil, hds, vals, oLst, eTup, eIf, eAnd, eOr, eNot, eNeg, gNeg, eIsN, eChain, bE, bAnd, bOr, bNot, bYes, eSl, oSl, pSo, pNo, iSeq, iRange, iEnumD, iZipD, Ct.d, Sl.d, ownC, putC, isBor, setN, runV, runR, runO, env0, headB, txN, txT, txsCons, txsNil, List.map, List.length, List.replicate, List.append, addI, subI, leI, ltI, gtI, geI, eqI, neI, g1, lenL, lenT, intI, cc, m1]) (wp_set (d := .int (midl p (cl R n) i + x.2 * atZ (cl R n) (((i : Int) - x.1) / 2))) (δ1 := [some (.b hd), some (.p (dR R)), some (.p (.int n)), some (.p (.lst (iD (cl R n)))), some (.p (.lst (R.map lstI))), some (.p (.int x.1)), some (.p (.int x.2)), some (.o (.lst (iD (mirL R (cl R n) i)))), some (.p (.int i)), some (.p (.int (midl p (cl R n) i))), none, none, none, none, none]) (by simp [sSeq, sDrop, sIf, sRet, sRetO, sRetN, sSet, sSetO, sPar, sApp, sPut, sAug, sNext, sBreak, eFn, oFn, eRef, eArgs, eArgs.dsOf, mP, mO, mNil, eVar, eC, eOp, oOp, eCall, oCall, eOwn, hVal, hName, Hd.d, slotD, aCons, aNil, hds, vals, oLst, eTup, eIf, eAnd, eOr, eNot, eNeg, gNeg, eIsN, eChain, bE, bAnd, bOr, bNot, bYes, eSl, oSl, pSo, pNo, iSeq, iRange, iEnumD, iZipD, Ct.d, Sl.d, ownC, putC, isBor, setN, runV, runR, runO, env0, headB, txN, txT, txsCons, txsNil, List.map, List.length, List.replicate, List.append, addI, subI, leI, ltI, gtI, geI, eqI, neI, g1, lenL, lenT, intI, d1, y1, m2]) rfl rfl ⟨_, .inl rfl, some (.int x.1), some (.int x.2), ?_⟩)
      unfold midl
      rw [mid_snoc, if_pos cc, Int.add_assoc]; rfl
    · refine wp_f (δ1 := [some (.b hd), some (.p (dR R)), some (.p (.int n)), some (.p (.lst (iD (cl R n)))), some (.p (.lst (R.map lstI))), some (.p (.int x.1)), some (.p (.int x.2)), some (.o (.lst (iD (mirL R (cl R n) i)))), some (.p (.int i)), some (.p (.int (midl p (cl R n) i))), none, none, none, none, none]) ?_ (wp_next ⟨_, .inl rfl, some (.int x.1), some (.int x.2), ?_⟩)
      · by_cases c1 : x.1 ≤ (i : Int)
        · have c2 : ¬ ((i : Int) - x.1) % 2 = 0 := fun z => cc ⟨c1, z⟩
          simp [sSeq, sDrop, sIf, sRet, sRetO, sRetN, sSet, sSetO, sPar, sApp, sPut, sAug, sNext, sBreak, eFn, oFn, eRef, eArgs, eArgs.dsOf, mP, mO, mNil, eVar, eC, eOp, oOp, eCall, oCall, eOwn, hVal, hName, Hd.d, slotD, aCons, aNil, hds, vals, oLst, eTup, eIf, eAnd, eOr, eNot, eNeg, gNeg, eIsN, eChain, bE, bAnd, bOr, bNot, bYes, eSl, oSl, pSo, pNo, iSeq, iRange, iEnumD, iZipD, Ct.d, Sl.d, ownC, putC, isBor, setN, runV, runR, runO, env0, headB, txN, txT, txsCons, txsNil, List.map, List.length, List.replicate, List.append, addI, subI, leI, ltI, gtI, geI, eqI, neI, g1, lenL, lenT, intI, c1, m1, c2]
        · simp [sSeq, sDrop, sIf, sRet, sRetO, sRetN, sSet, sSetO, sPar, sApp, sPut, sAug, sNext, sBreak, eFn, oFn, eRef, eArgs, eArgs.dsOf, mP, mO, mNil, eVar, eC, eOp, oOp, eCall, oCall, eOwn, hVal, hName, Hd.d, slotD, aCons, aNil, hds, vals, oLst, eTup, eIf, eAnd, eOr, eNot, eNeg, gNeg, eIsN, eChain, bE, bAnd, bOr, bNot, bYes, eSl, oSl, pSo, pNo, iSeq, iRange, iEnumD, iZipD, Ct.d, Sl.d, ownC, putC, isBor, setN, runV, runR, runO, env0, headB, txN, txT, txsCons, txsNil, List.map, List.length, List.replicate, List.append, addI, subI, leI, ltI, gtI, geI, eqI, neI, g1, lenL, lenT, intI, c1]
      · unfold midl
        rw [mid_snoc, if_neg cc, Int.add_zero]; rfl
  · rintro δ' ⟨a, b, rfl⟩
    refine wp_app rfl rfl rfl (by rw [iD_len, mirL_len]; simp [lim]; omega) ⟨a, b, ?_⟩
    rw [mirL_succ]; rfl
theorem wp_mid {R : Rods} (h : V R) {n : Nat} (hn' : n ≤ 299) (hd : Ct) {Q : Fl → Prop} {sb : SX} (hq : ∀ (e : Sl) (a b c d : Option D), (e = .o (.lst (R.map lstI)) ∨ e = .p (.lst (R.map lstI))) → Wp sb [some (.b hd), some (.p (dR R)), some (.p (.int n)), some (.p (.lst (iD (cl R n)))), some e, a.map .p, b.map .p, some (.o (.lst (iD (mirL R (cl R n) (n + 1))))), c.map .p, d.map .p, none, none, none, none, none] Q) :
    Wp (sSeq (sFor (iRange rg1 (aCons (hVal (eOp gAdd (hName 2) (hVal (eC (.int 1))))) aNil)) (txN 8) (sSeq (sSet 9 eMid) (sSeq (sFor (iSeq (eVar 4)) (txT 2 (txsCons (txN 5) (txsCons (txN 6) txsNil))) sMid) (sApp 7 (eVar 9))))) sb) [some (.b hd), some (.p (dR R)), some (.p (.int n)), some (.p (.lst (iD (cl R n)))), some (.o (.lst (R.map lstI))), none, none, some (.o (.lst [])), none, none, none, none, none, none, none] Q := by
  have ir : iRange rg1 (aCons (hVal (eOp gAdd (hName 2) (hVal (eC (.int 1))))) aNil) [some (.b hd), some (.p (dR R)), some (.p (.int n)), some (.p (.lst (iD (cl R n)))), some (.o (.lst (R.map lstI))), none, none, some (.o (.lst [])), none, none, none, none, none, none, none] = some (upFrom 0 (n + 1), [some (.b hd), some (.p (dR R)), some (.p (.int n)), some (.p (.lst (iD (cl R n)))), some (.o (.lst (R.map lstI))), none, none, some (.o (.lst [])), none, none, none, none, none, none, none]) := iR1 (a := (n : Int) + 1) rfl rfl (by omega) (by omega) (by omega)
  refine wp_seq (wp_up (fun i δ => ∃ (e : Sl) (a b c d : Option D), (e = .o (.lst (R.map lstI)) ∨ e = .p (.lst (R.map lstI))) ∧ δ = [some (.b hd), some (.p (dR R)), some (.p (.int n)), some (.p (.lst (iD (cl R n)))), some e, a.map .p, b.map .p, some (.o (.lst (iD (mirL R (cl R n) i)))), c.map .p, d.map .p, none, none, none, none, none]) 0 (n + 1) ir ⟨_, none, none, none, none, .inl rfl, rfl⟩ ?_ ?_)
  · rintro i δ hi ⟨e, a, b, c, d, he, rfl⟩
    rw [Int.zero_add]
    refine ⟨[some (.b hd), some (.p (dR R)), some (.p (.int n)), some (.p (.lst (iD (cl R n)))), some e, a.map .p, b.map .p, some (.o (.lst (iD (mirL R (cl R n) i)))), some (.p (.int i)), d.map .p, none, none, none, none, none], by cases c <;> rcases he with rfl | rfl <;> simp [sSeq, sDrop, sIf, sRet, sRetO, sRetN, sSet, sSetO, sPar, sApp, sPut, sAug, sNext, sBreak, eFn, oFn, eRef, eArgs, eArgs.dsOf, mP, mO, mNil, eVar, eC, eOp, oOp, eCall, oCall, eOwn, hVal, hName, Hd.d, slotD, aCons, aNil, hds, vals, oLst, eTup, eIf, eAnd, eOr, eNot, eNeg, gNeg, eIsN, eChain, bE, bAnd, bOr, bNot, bYes, eSl, oSl, pSo, pNo, iSeq, iRange, iEnumD, iZipD, Ct.d, Sl.d, ownC, putC, isBor, setN, runV, runR, runO, env0, headB, txN, txT, txsCons, txsNil, List.map, List.length, List.replicate, List.append, addI, subI, leI, ltI, gtI, geI, eqI, neI, g1, lenL, lenT, intI], ?_⟩
    refine (mid_turn h hn' hd hi e a b d he).mono ?_
    rintro f ⟨a, b, rfl⟩
    exact ⟨_, .inl rfl, _, a, b, some (.int i), some (.int (midl R (cl R n) i)), .inr rfl, rfl⟩
  · rintro δ' ⟨e, a, b, c, d, he, rfl⟩
    exact hq e a b c d he
end K15

namespace K15
open PySem PySem.Spec PyProof.Rows L2 DL
theorem oLc_gen {α : Type} {ix : IX} {tx : TX} {bx : BX} {ev : EX} {vs : List Nat} {δ0 δ δw : DEnv} (g : α → D) (t : α → Option D) (xs : List α) (hi : ix δ0 = some (xs.map g, δ)) (hw : wipeD δ vs = δw) (hno : noOwn δ vs = true) (hb : backD δ δw vs = δ)
    (h : ∀ x ∈ xs, ∃ δ1, tx (g x) δw = some δ1 ∧ ((t x = none ∧ ∃ δ2, bx δ1 = some (false, δ2) ∧ wipeD δ2 vs = δw) ∨ ∃ z δ2 δ3, t x = some z ∧ bx δ1 = some (true, δ2) ∧ ev δ2 = some (z, δ3) ∧ wipeD δ3 vs = δw)) (hl : xs.length ≤ lim) :
    oLc ix tx bx ev vs δ0 = some (.lst (xs.filterMap t), δ) := by
  unfold oLc
  rw [hi]
  show (if noOwn δ vs then (loopC tx bx ev vs (xs.map g) (wipeD δ vs) []).bind fun q => some (Ct.lst q.1, backD δ q.2 vs) else none) = _
  rw [if_pos hno, hw, loopC_pure g t xs [] h (by simpa using hl)]
  show some (Ct.lst ([] ++ xs.filterMap t), backD δ δw vs) = _
  rw [hb]; rfl
theorem lc_rodsG {R : Rods} (h : V R) {ix : IX} {bx : BX} {ev : EX} {a b : Nat} {δ0 δ δw : DEnv} (t : Int × Int → Option Int) (hi : ix δ0 = some (R.map tupI, δ)) (hw : wipeD δ [a, b] = δw) (hno : noOwn δ [a, b] = true) (hb : backD δ δw [a, b] = δ) (hba : isBor δw a = false) (hbb : ∀ d, isBor (δw.set a d) b = false)
    (hs : ∀ p ∈ R, let δ2 := (δw.set a (some (.p (.int p.1)))).set b (some (.p (.int p.2))); wipeD δ2 [a, b] = δw ∧ ((t p = none ∧ bx δ2 = some (false, δ2)) ∨ ∃ z, t p = some z ∧ bx δ2 = some (true, δ2) ∧ ev δ2 = some (.int z, δ2))) :
    oLc ix (txT 2 (txsCons (txN a) (txsCons (txN b) txsNil))) bx ev [a, b] δ0 = some (.lst (iD (R.filterMap t)), δ) := by
  rw [← fmap_int]
  refine oLc_gen tupI _ R hi hw hno hb (fun p hp => ?_) (by have := h.len; simp [lim]; omega)
  obtain ⟨w, q⟩ := hs p hp
  refine ⟨(δw.set a (some (.p (.int p.1)))).set b (some (.p (.int p.2))), ?_, ?_⟩
  · simp [tupI, txT, txsCons, txN, txsNil, hba, hbb]
  · rcases q with ⟨q1, q2⟩ | ⟨z, q1, q2, q3⟩
    · exact .inl ⟨by rw [q1]; rfl, _, q2, w⟩
    · exact .inr ⟨_, _, _, by rw [q1]; rfl, q2, q3, w⟩
abbrev lcRound : OX := oLc (iSeq (eVar 1)) (txT 2 (txsCons (txN 5) (txsCons (txN 6) txsNil))) (bE (eOp gLe (hName 5) (hName 8))) (eOp gMul (hVal (eOp gMul (hName 5) (hName 6))) (hVal (eOp gIx (hName 3) (hVal (eOp DL.gSub (hName 8) (hName 5)))))) [5, 6]
theorem lc_round {R : Rods} (h : V R) {n : Nat} (hn' : n ≤ 299) (hd : Ct) {i : Nat} (hi : i < n) (e al : Option Sl) (a b d : Option D) :
    lcRound [some (.b hd), some (.p (dR R)), some (.p (.int n)), some (.p (.lst (iD (cl R n)))), e, a.map .p, b.map .p, al, some (.p (.int (1 + i))), d.map .p, some (.o (.lst (iD (rdL R n i)))), none, none, none, none] = some (.lst (iD (fit R (1 + i) fun p => p.1 * p.2 * atZ (cl R n) (1 + i - p.1))), [some (.b hd), some (.p (dR R)), some (.p (.int n)), some (.p (.lst (iD (cl R n)))), e, a.map .p, b.map .p, al, some (.p (.int (1 + i))), d.map .p, some (.o (.lst (iD (rdL R n i)))), none, none, none, none]) := by
  refine lc_rodsG (δw := [some (.b hd), some (.p (dR R)), some (.p (.int n)), some (.p (.lst (iD (cl R n)))), e, none, none, al, some (.p (.int (1 + i))), d.map .p, some (.o (.lst (iD (rdL R n i)))), none, none, none, none]) h _ rfl rfl (by cases a <;> cases b <;> rfl) rfl rfl (fun d => rfl) fun p hp => ?_
  obtain ⟨l1, l2, l3, l4⟩ := h.lo p hp
  refine ⟨rfl, ?_⟩
  by_cases c : p.1 ≤ 1 + (i : Int)
  · refine .inr ⟨_, if_pos c, by simp [sSeq, sDrop, sIf, sRet, sRetO, sRetN, sSet, sSetO, sPar, sApp, sPut, sAug, sNext, sBreak, eFn, oFn, eRef, eArgs, eArgs.dsOf, mP, mO, mNil, eVar, eC, eOp, oOp, eCall, oCall, eOwn, hVal, hName, Hd.d, slotD, aCons, aNil, hds, vals, oLst, eTup, eIf, eAnd, eOr, eNot, eNeg, gNeg, eIsN, eChain, bE, bAnd, bOr, bNot, bYes, eSl, oSl, pSo, pNo, iSeq, iRange, iEnumD, iZipD, Ct.d, Sl.d, ownC, putC, isBor, setN, runV, runR, runO, env0, headB, txN, txT, txsCons, txsNil, List.map, List.length, List.replicate, List.append, addI, subI, leI, ltI, gtI, geI, eqI, neI, g1, lenL, lenT, intI, c], ?_⟩
    have y1 := atZ_row h hn' (i := 1 + i - p.1) (by omega) (by omega)
    obtain ⟨_, y2, _⟩ := atZ_cl h hn' (i := 1 + i - p.1) (by omega) (by omega)
    have m1 := mulI (a := p.1) (b := p.2) (small_le (k := 8) (by omega) (by omega) (by decide)) (small_le (k := 8) (by omega) (by omega) (by decide))
    have b1 : 0 ≤ p.1 * p.2 := Int.mul_nonneg (by omega) (by omega)
    have b2 : p.1 * p.2 ≤ 60 * 9 := Int.le_trans (Int.mul_le_mul_of_nonneg_right l2 (by omega)) (Int.mul_le_mul_of_nonneg_left l4 (by decide))
    have m2 := mulI (a := p.1 * p.2) (small_le (k := 12) b1 (by omega) (by decide)) y2
    simp [sSeq, sDrop, sIf, sRet, sRetO, sRetN, sSet, sSetO, sPar, sApp, sPut, sAug, sNext, sBreak, eFn, oFn, eRef, eArgs, eArgs.dsOf, mP, mO, mNil, eVar, eC, eOp, oOp, eCall, oCall, eOwn, hVal, hName, Hd.d, slotD, aCons, aNil, hds, vals, oLst, eTup, eIf, eAnd, eOr, eNot, eNeg, gNeg, eIsN, eChain, bE, bAnd, bOr, bNot, bYes, eSl, oSl, pSo, pNo, iSeq, iRange, iEnumD, iZipD, Ct.d, Sl.d, ownC, putC, isBor, setN, runV, runR, runO, env0, headB, txN, txT, txsCons, txsNil, List.map, List.length, List.replicate, List.append, addI, subI, leI, ltI, gtI, geI, eqI, neI, g1, lenL, lenT, intI, y1, m1, m2]
  · exact .inl ⟨if_neg c, by simp [sSeq, sDrop, sIf, sRet, sRetO, sRetN, sSet, sSetO, sPar, sApp, sPut, sAug, sNext, sBreak, eFn, oFn, eRef, eArgs, eArgs.dsOf, mP, mO, mNil, eVar, eC, eOp, oOp, eCall, oCall, eOwn, hVal, hName, Hd.d, slotD, aCons, aNil, hds, vals, oLst, eTup, eIf, eAnd, eOr, eNot, eNeg, gNeg, eIsN, eChain, bE, bAnd, bOr, bNot, bYes, eSl, oSl, pSo, pNo, iSeq, iRange, iEnumD, iZipD, Ct.d, Sl.d, ownC, putC, isBor, setN, runV, runR, runO, env0, headB, txN, txT, txsCons, txsNil, List.map, List.length, List.replicate, List.append, addI, subI, leI, ltI, gtI, geI, eqI, neI, g1, lenL, lenT, intI, c]⟩
theorem wp_rounds {R : Rods} (h : V R) {n : Nat} (hn' : n ≤ 299) (hd : Ct) {Q : Fl → Prop} {sb : SX} (e al : Option Sl) (a b c d : Option D) (hq : ∀ (c : Option D), Wp sb [some (.b hd), some (.p (dR R)), some (.p (.int n)), some (.p (.lst (iD (cl R n)))), e, a.map .p, b.map .p, al, c.map .p, d.map .p, some (.o (.lst (iD (rdL R n n)))), none, none, none, none] Q) :
    Wp (sSeq (sFor (iRange rg2 (aCons (hVal (eC (.int 1))) (aCons (hVal (eOp gAdd (hName 2) (hVal (eC (.int 1))))) aNil))) (txN 8) (sApp 10 (eCall (g1 dSum) (aCons (hVal (eOwn lcRound)) aNil)))) sb) [some (.b hd), some (.p (dR R)), some (.p (.int n)), some (.p (.lst (iD (cl R n)))), e, a.map .p, b.map .p, al, c.map .p, d.map .p, some (.o (.lst [])), none, none, none, none] Q := by
  have ir : iRange rg2 (aCons (hVal (eC (.int 1))) (aCons (hVal (eOp gAdd (hName 2) (hVal (eC (.int 1))))) aNil)) [some (.b hd), some (.p (dR R)), some (.p (.int n)), some (.p (.lst (iD (cl R n)))), e, a.map .p, b.map .p, al, c.map .p, d.map .p, some (.o (.lst [])), none, none, none, none] = some (upFrom 1 n, [some (.b hd), some (.p (dR R)), some (.p (.int n)), some (.p (.lst (iD (cl R n)))), e, a.map .p, b.map .p, al, c.map .p, d.map .p, some (.o (.lst [])), none, none, none, none]) := iR2 (a := 1) (b := (n : Int) + 1) rfl rfl rfl rfl (by omega) (by omega) (by omega) (by omega) (by omega)
  refine wp_seq (wp_up (fun i δ => ∃ (c : Option D), δ = [some (.b hd), some (.p (dR R)), some (.p (.int n)), some (.p (.lst (iD (cl R n)))), e, a.map .p, b.map .p, al, c.map .p, d.map .p, some (.o (.lst (iD (rdL R n i)))), none, none, none, none]) 1 n ir ⟨c, rfl⟩ ?_ ?_)
  · rintro i δ hi ⟨c, rfl⟩
    refine ⟨[some (.b hd), some (.p (dR R)), some (.p (.int n)), some (.p (.lst (iD (cl R n)))), e, a.map .p, b.map .p, al, some (.p (.int (1 + i))), d.map .p, some (.o (.lst (iD (rdL R n i)))), none, none, none, none], by cases c <;> simp [sSeq, sDrop, sIf, sRet, sRetO, sRetN, sSet, sSetO, sPar, sApp, sPut, sAug, sNext, sBreak, eFn, oFn, eRef, eArgs, eArgs.dsOf, mP, mO, mNil, eVar, eC, eOp, oOp, eCall, oCall, eOwn, hVal, hName, Hd.d, slotD, aCons, aNil, hds, vals, oLst, eTup, eIf, eAnd, eOr, eNot, eNeg, gNeg, eIsN, eChain, bE, bAnd, bOr, bNot, bYes, eSl, oSl, pSo, pNo, iSeq, iRange, iEnumD, iZipD, Ct.d, Sl.d, ownC, putC, isBor, setN, runV, runR, runO, env0, headB, txN, txT, txsCons, txsNil, List.map, List.length, List.replicate, List.append, addI, subI, leI, ltI, gtI, geI, eqI, neI, g1, lenL, lenT, intI], ?_⟩
    refine wp_app rfl (e_sum (lc_round h hn' hd hi e al a b d)) rfl (by rw [iD_len, rdL_len]; simp [lim]; omega) ⟨_, .inl rfl, some (.int (1 + i)), ?_⟩
    rw [rdL_succ]; rfl
  · rintro δ' ⟨c, rfl⟩
    exact hq c
theorem rdL_self (R : Rods) (n : Nat) : rdL R n n = rdl R n := rfl
theorem e_list {e : EX} {δ δ1 : DEnv} {xs : List D} (h : e δ = some (.tup xs, δ1)) : eOwn (oCall (c1 cList) (aCons (hVal e) aNil)) δ = some (.lst xs, δ1) := by
  simp [eOwn, oCall, aCons, hVal, h, aNil, hds, Hd.d, Ct.d, c1, cList]
abbrev lcUnl : OX := oLc (iZipD (eVar 3) (eVar 7)) (txT 2 (txsCons (txN 13) (txsCons (txN 14) txsNil))) bYes (eOp gDiv (hVal (eOp gAdd (hName 13) (hName 14))) (hVal (eC (.int 2)))) [13, 14]
theorem lc_unl {R : Rods} (h : V R) {n : Nat} (hn' : n ≤ 299) (hd : Ct) (e x5 x6 x8 x9 ro x11 : Option Sl) :
    lcUnl [some (.b hd), some (.p (dR R)), some (.p (.int n)), some (.p (.lst (iD (cl R n)))), e, x5, x6, some (.p (.lst (iD (mirL R (cl R n) (n + 1))))), x8, x9, ro, x11, none, none, none] = some (.lst (iD (unlL R n)), [some (.b hd), some (.p (dR R)), some (.p (.int n)), some (.p (.lst (iD (cl R n)))), e, x5, x6, some (.p (.lst (iD (mirL R (cl R n) (n + 1))))), x8, x9, ro, x11, none, none, none]) := by
  unfold unlL
  rw [iD_map, ← fmap_some]
  refine oLc_pure (fun q : Int × Int => .tup [.int q.1, .int q.2]) _ ((cl R n).zip (mirL R (cl R n) (n + 1))) ?_ rfl rfl rfl ?_ ?_
  · have z : zip2 (.lst (iD (cl R n))) (.lst (iD (mirL R (cl R n) (n + 1)))) = some (((cl R n).zip (mirL R (cl R n) (n + 1))).map fun q => .tup [.int q.1, .int q.2]) := by
      show some (zipD (iD _) (iD _)) = _
      unfold iD
      rw [zipD_map]
    simp [sSeq, sDrop, sIf, sRet, sRetO, sRetN, sSet, sSetO, sPar, sApp, sPut, sAug, sNext, sBreak, eFn, oFn, eRef, eArgs, eArgs.dsOf, mP, mO, mNil, eVar, eC, eOp, oOp, eCall, oCall, eOwn, hVal, hName, Hd.d, slotD, aCons, aNil, hds, vals, oLst, eTup, eIf, eAnd, eOr, eNot, eNeg, gNeg, eIsN, eChain, bE, bAnd, bOr, bNot, bYes, eSl, oSl, pSo, pNo, iSeq, iRange, iEnumD, iZipD, Ct.d, Sl.d, ownC, putC, isBor, setN, runV, runR, runO, env0, headB, txN, txT, txsCons, txsNil, List.map, List.length, List.replicate, List.append, addI, subI, leI, ltI, gtI, geI, eqI, neI, g1, lenL, lenT, intI, z]
  · intro q hq
    refine ⟨[some (.b hd), some (.p (dR R)), some (.p (.int n)), some (.p (.lst (iD (cl R n)))), e, x5, x6, some (.p (.lst (iD (mirL R (cl R n) (n + 1))))), x8, x9, ro, x11, none, some (.p (.int q.1)), some (.p (.int q.2))], by simp [sSeq, sDrop, sIf, sRet, sRetO, sRetN, sSet, sSetO, sPar, sApp, sPut, sAug, sNext, sBreak, eFn, oFn, eRef, eArgs, eArgs.dsOf, mP, mO, mNil, eVar, eC, eOp, oOp, eCall, oCall, eOwn, hVal, hName, Hd.d, slotD, aCons, aNil, hds, vals, oLst, eTup, eIf, eAnd, eOr, eNot, eNeg, gNeg, eIsN, eChain, bE, bAnd, bOr, bNot, bYes, eSl, oSl, pSo, pNo, iSeq, iRange, iEnumD, iZipD, Ct.d, Sl.d, ownC, putC, isBor, setN, runV, runR, runO, env0, headB, txN, txT, txsCons, txsNil, List.map, List.length, List.replicate, List.append, addI, subI, leI, ltI, gtI, geI, eqI, neI, g1, lenL, lenT, intI], .inr ⟨_, _, [some (.b hd), some (.p (dR R)), some (.p (.int n)), some (.p (.lst (iD (cl R n)))), e, x5, x6, some (.p (.lst (iD (mirL R (cl R n) (n + 1))))), x8, x9, ro, x11, none, some (.p (.int q.1)), some (.p (.int q.2))], rfl, rfl, ?_, rfl⟩⟩
    simp [sSeq, sDrop, sIf, sRet, sRetO, sRetN, sSet, sSetO, sPar, sApp, sPut, sAug, sNext, sBreak, eFn, oFn, eRef, eArgs, eArgs.dsOf, mP, mO, mNil, eVar, eC, eOp, oOp, eCall, oCall, eOwn, hVal, hName, Hd.d, slotD, aCons, aNil, hds, vals, oLst, eTup, eIf, eAnd, eOr, eNot, eNeg, gNeg, eIsN, eChain, bE, bAnd, bOr, bNot, bYes, eSl, oSl, pSo, pNo, iSeq, iRange, iEnumD, iZipD, Ct.d, Sl.d, ownC, putC, isBor, setN, runV, runR, runO, env0, headB, txN, txT, txsCons, txsNil, List.map, List.length, List.replicate, List.append, addI, subI, leI, ltI, gtI, geI, eqI, neI, g1, lenL, lenT, intI, divI (a := q.1 + q.2) (b := 2) (by decide) small2]
  · rw [List.length_zip, cl_len, mirL_len]; simp [lim]; omega
theorem lc_even {R : Rods} (h : V R) {n : Nat} (hd : Ct) : oLc (iSeq (eVar 1)) (txT 2 (txsCons (txN 5) (txsCons (txN 6) txsNil))) bYes (eOwn (oLst (aCons (hVal (eVar 5)) (aCons (hVal (eVar 6)) aNil)))) [5, 6] [some (.b hd), some (.p (dR R)), some (.p (.int n)), some (.p (.lst (iD (cl R n)))), none, none, none, none, none, none, none, none, none, none, none] = some (.lst (R.map lstI), [some (.b hd), some (.p (dR R)), some (.p (.int n)), some (.p (.lst (iD (cl R n)))), none, none, none, none, none, none, none, none, none, none, none]) := by
  rw [← fmap_some]
  refine oLc_pure tupI _ R rfl rfl rfl rfl (fun p hp => ⟨[some (.b hd), some (.p (dR R)), some (.p (.int n)), some (.p (.lst (iD (cl R n)))), none, some (.p (.int p.1)), some (.p (.int p.2)), none, none, none, none, none, none, none, none], by simp [sSeq, sDrop, sIf, sRet, sRetO, sRetN, sSet, sSetO, sPar, sApp, sPut, sAug, sNext, sBreak, eFn, oFn, eRef, eArgs, eArgs.dsOf, mP, mO, mNil, eVar, eC, eOp, oOp, eCall, oCall, eOwn, hVal, hName, Hd.d, slotD, aCons, aNil, hds, vals, oLst, eTup, eIf, eAnd, eOr, eNot, eNeg, gNeg, eIsN, eChain, bE, bAnd, bOr, bNot, bYes, eSl, oSl, pSo, pNo, iSeq, iRange, iEnumD, iZipD, Ct.d, Sl.d, ownC, putC, isBor, setN, runV, runR, runO, env0, headB, txN, txT, txsCons, txsNil, List.map, List.length, List.replicate, List.append, addI, subI, leI, ltI, gtI, geI, eqI, neI, g1, lenL, lenT, intI, tupI], .inr ⟨_, _, [some (.b hd), some (.p (dR R)), some (.p (.int n)), some (.p (.lst (iD (cl R n)))), none, some (.p (.int p.1)), some (.p (.int p.2)), none, none, none, none, none, none, none, none], rfl, rfl, by simp [sSeq, sDrop, sIf, sRet, sRetO, sRetN, sSet, sSetO, sPar, sApp, sPut, sAug, sNext, sBreak, eFn, oFn, eRef, eArgs, eArgs.dsOf, mP, mO, mNil, eVar, eC, eOp, oOp, eCall, oCall, eOwn, hVal, hName, Hd.d, slotD, aCons, aNil, hds, vals, oLst, eTup, eIf, eAnd, eOr, eNot, eNeg, gNeg, eIsN, eChain, bE, bAnd, bOr, bNot, bYes, eSl, oSl, pSo, pNo, iSeq, iRange, iEnumD, iZipD, Ct.d, Sl.d, ownC, putC, isBor, setN, runV, runR, runO, env0, headB, txN, txT, txsCons, txsNil, List.map, List.length, List.replicate, List.append, addI, subI, leI, ltI, gtI, geI, eqI, neI, g1, lenL, lenT, intI, lim, lstI], rfl⟩⟩) (by have := h.len; simp [lim]; omega)
theorem cat_ok {a b : List D} (h : a.length + b.length ≤ lim) : cCat (.lst a) (.lst b) = some (.lst (a ++ b)) := if_pos h
theorem v_sums {R : Rods} (h : V R) {n : Nat} (hn : n ≤ 298) (hd : Ct) : F__law_are_sums_right hd [dR R, .int n] = some (.bl true, hd) := by
  have hn' : n ≤ 299 := by omega
  refine runR_wp ?_
  show Wp _ [some (.b hd), some (.p (dR R)), some (.p (.int n)), none, none, none, none, none, none, none, none, none, none, none, none] _
  refine wp_seq (wp_set (e_fn (m_p (ev_p rfl) (m_p (ev_p rfl) m_nil)) rfl (v__law_counts h hn')) rfl rfl ?_)
  show Wp _ [some (.b hd), some (.p (dR R)), some (.p (.int n)), some (.p (.lst (iD (cl R n)))), none, none, none, none, none, none, none, none, none, none, none] _
  refine wp_seq (wp_setO (lc_even h hd) rfl rfl ?_)
  show Wp _ [some (.b hd), some (.p (dR R)), some (.p (.int n)), some (.p (.lst (iD (cl R n)))), some (.o (.lst (R.map lstI))), none, none, none, none, none, none, none, none, none, none] _
  refine wp_seq (wp_setO (o_lst a_nil rfl (by simp [lim])) rfl rfl ?_)
  refine wp_mid h hn' hd fun e a b c d he => ?_
  refine wp_seq (wp_setO (o_lst a_nil rfl (by simp [lim])) rfl rfl ?_)
  refine wp_rounds h hn' hd (some e) (some (.o (.lst (iD (mirL R (cl R n) (n + 1)))))) a b c d fun c => ?_
  have i1 : [some (.b hd), some (.p (dR R)), some (.p (.int n)), some (.p (.lst (iD (cl R n)))), some e, a.map .p, b.map .p, some (.o (.lst (iD (mirL R (cl R n) (n + 1))))), c.map .p, d.map .p, some (.o (.lst (iD (rdL R n n)))), none, none, none, none][1]? = some (some (.p (dR R))) := rfl
  refine wp_seq (wp_setO (o_lst (a_val (e_list (e_fn (m_p (ev_p rfl) (m_p (ev_p rfl) m_nil)) rfl (v_counts h hn'))) (a_val (e_list (e_fn (m_p (ev_p rfl) (m_p (ev_p rfl) m_nil)) rfl (v_mirrored_counts h hn))) (a_val (e_list (e_fn (m_p (ev_p rfl) (m_p (ev_p rfl) m_nil)) rfl (v_unlike_counts h hn))) a_nil))) rfl (by simp [lim])) rfl rfl ?_)
  show Wp _ [some (.b hd), some (.p (dR R)), some (.p (.int n)), some (.p (.lst (iD (cl R n)))), some e, a.map .p, b.map .p, some (.o (.lst (iD (mirL R (cl R n) (n + 1))))), c.map .p, d.map .p, some (.o (.lst (iD (rdL R n n)))), some (.o (.lst [.lst (iD (cl R n)), .lst (iD (mirL R (cl R n) (n + 1))), .lst (iD (unlL R n))])), none, none, none] _
  refine wp_seq (wp_setO (o_lst (a_val (ev_p rfl) (a_val (ev_o rfl) (a_val (e_own (lc_unl h hn' hd (some e) _ _ _ _ _ _)) a_nil))) rfl (by simp [lim])) rfl rfl ?_)
  show Wp _ [some (.b hd), some (.p (dR R)), some (.p (.int n)), some (.p (.lst (iD (cl R n)))), some e, a.map .p, b.map .p, some (.p (.lst (iD (mirL R (cl R n) (n + 1))))), c.map .p, d.map .p, some (.o (.lst (iD (rdL R n n)))), some (.o (.lst [.lst (iD (cl R n)), .lst (iD (mirL R (cl R n) (n + 1))), .lst (iD (unlL R n))])), some (.o (.lst [.lst (iD (cl R n)), .lst (iD (mirL R (cl R n) (n + 1))), .lst (iD (unlL R n))])), none, none] _
  refine wp_ret (e_fn (m_p (e_own (o_op rfl (h_val (e_own (o_lst (a_val (e_list (e_fn (m_p (ev_p rfl) (m_p (ev_p rfl) m_nil)) rfl (v_round_counts h hn'))) a_nil) rfl (by simp [lim])))) rfl rfl (cat_ok (by simp [lim])))) (m_p (e_own (o_op rfl (h_val (e_own (o_lst (a_val (ev_o rfl) a_nil) rfl (by simp [lim])))) rfl rfl (cat_ok (by simp [lim])))) m_nil)) rfl (v__law_like (told4 h hn'))) ⟨_, .inl rfl, rfl⟩
end K15

namespace K15
open PySem PySem.Spec PyProof.Rows L2 DL
/-! ### draws -/
structure Hnd where
  cs : List Int
  a : Int
  b : Int
  c : Int
  e : Int
def hC (h : Hnd) : Ct := .lst [.lst (iD h.cs), .int h.a, .int h.b, .int h.c, .int h.e]
structure HOk (m : Nat) (h : Hnd) : Prop where
  cs : ∀ x ∈ h.cs, 0 ≤ x ∧ x < 10000000000000000000000000000000000000000
  len : h.cs.length ≤ 63
  a : 0 ≤ h.a
  b : 0 ≤ h.b ∧ h.b < 10000000000000000000000000000000000000000
  c : 0 ≤ h.c ∧ h.c < 2147483648
  e : 0 ≤ h.e ∧ h.e ≤ m
theorem HOk.more {m k : Nat} {h : Hnd} (x : HOk m h) (l : m ≤ k) : HOk k h := ⟨x.cs, x.len, x.a, x.b, x.c, x.e.1, by have := x.e.2; omega⟩
theorem small40 {i : Int} (h0 : 0 ≤ i) (h : i < 10000000000000000000000000000000000000000000000000000000000000) : small i = true := small_le (k := 300) h0 (Int.lt_of_lt_of_le h (by decide +kernel)) (by decide)
section
variable {x0 x1 x2 x3 x4 : D}
theorem g0 : gIx (.lst [x0, x1, x2, x3, x4]) (.int 0) = some x0 := rfl
theorem g1_ : gIx (.lst [x0, x1, x2, x3, x4]) (.int 1) = some x1 := rfl
theorem g2 : gIx (.lst [x0, x1, x2, x3, x4]) (.int 2) = some x2 := rfl
theorem g3 : gIx (.lst [x0, x1, x2, x3, x4]) (.int 3) = some x3 := rfl
theorem g4 : gIx (.lst [x0, x1, x2, x3, x4]) (.int 4) = some x4 := rfl
end
theorem pow18 : gPow (.int 10) (.int 18) = some (.int 1000000000000000000) := rfl
abbrev sDrawA : SX := (sIf (bAnd (bE (eOp gEq (hVal (eOp gIx (hName 0) (hVal (eC (.int 2))))) (hVal (eC (.int 0))))) (bE (eOp gLt (hVal (eOp gIx (hName 0) (hVal (eC (.int 1))))) (hVal (eCall (g1 dLen) (aCons (hVal (eOp gIx (hName 0) (hVal (eC (.int 0))))) aNil)))))) (sSeq (sSet 2 (eOp gIx (hVal (eOp gIx (hName 0) (hVal (eC (.int 0))))) (hVal (eOp gIx (hName 0) (hVal (eC (.int 1)))))))
  (sSeq (sPut 0 (hVal (eC (.int 1))) (eOp gAdd (hVal (eOp gIx (hName 0) (hVal (eC (.int 1))))) (hVal (eC (.int 1)))))
  (sSeq (sPut 0 (hVal (eC (.int 3))) (eOp gMod (hVal (eCall (g1 dInt) (aCons (hVal (eOp gAdd (hVal (eOp gAdd (hVal (eOp gMul (hVal (eOp gIx (hName 0) (hVal (eC (.int 3))))) (hVal (eC (.int 69621))))) (hVal (eOp gMul (hName 2) (hVal (eC (.int 40692))))))) (hVal (eC (.int 41))))) aNil))) (hVal (eC (.int 2147483629)))))
  (sIf (bE (eOp gGe (hName 2) (hVal (eOp gPow (hVal (eC (.int 10))) (hVal (eC (.int 18))))))) (sPut 0 (hVal (eC (.int 2))) (eVar 2)) sNext)))) sNext)
/-- the first part: a cell is taken up, or nothing changes -/
theorem drawA {m : Nat} {h : Hnd} (x : HOk m h) (n : Int) : Wp sDrawA [some (.b (hC h)), some (.p (.int n)), none, none, none] fun f => ∃ (h' : Hnd) (z : Option D), HOk m h' ∧ f = .nx [some (.b (hC h')), some (.p (.int n)), z.map .p, none, none] := by
  obtain ⟨cs, a, b, c, e⟩ := h
  by_cases c1 : b = 0 ∧ a < cs.length
  · obtain ⟨rfl, ha⟩ := c1
    have ha0 : 0 ≤ a := x.a
    have ha : a < cs.length := ha
    have l : (iD cs).length = cs.length := iD_len cs
    refine wp_t (δ1 := [some (.b (hC ⟨cs, a, 0, c, e⟩)), some (.p (.int n)), none, none, none]) ?_ ?_
    · simp [sSeq, sDrop, sIf, sRet, sRetO, sRetN, sSet, sSetO, sPar, sApp, sPut, sAug, sNext, sBreak, eFn, oFn, eRef, eArgs, eArgs.dsOf, mP, mO, mNil, eVar, eC, eOp, oOp, eCall, oCall, eOwn, hVal, hName, Hd.d, slotD, aCons, aNil, hds, vals, oLst, eTup, eIf, eAnd, eOr, eNot, eNeg, gNeg, eIsN, eChain, bE, bAnd, bOr, bNot, bYes, eSl, oSl, pSo, pNo, iSeq, iRange, iEnumD, iZipD, Ct.d, Sl.d, ownC, putC, isBor, setN, runV, runR, runO, env0, headB, txN, txT, txsCons, txsNil, List.map, List.length, List.replicate, List.append, addI, subI, leI, ltI, gtI, geI, eqI, neI, g1, lenL, lenT, intI, hC, g0, g1_, g2, l, ha]
    · have cell := x.cs (atZ cs a) (by
        unfold atZ
        rw [List.getD_eq_getElem?_getD, List.getElem?_eq_getElem (by have : a < cs.length := ha; omega)]
        exact List.getElem_mem _)
      have xi : gIx (.lst (iD cs)) (.int a) = some (.int (atZ cs a)) := ixL ha0 ha
      refine wp_seq (wp_set (d := .int (atZ cs a)) (δ1 := [some (.b (hC ⟨cs, a, 0, c, e⟩)), some (.p (.int n)), none, none, none]) (by simp [sSeq, sDrop, sIf, sRet, sRetO, sRetN, sSet, sSetO, sPar, sApp, sPut, sAug, sNext, sBreak, eFn, oFn, eRef, eArgs, eArgs.dsOf, mP, mO, mNil, eVar, eC, eOp, oOp, eCall, oCall, eOwn, hVal, hName, Hd.d, slotD, aCons, aNil, hds, vals, oLst, eTup, eIf, eAnd, eOr, eNot, eNeg, gNeg, eIsN, eChain, bE, bAnd, bOr, bNot, bYes, eSl, oSl, pSo, pNo, iSeq, iRange, iEnumD, iZipD, Ct.d, Sl.d, ownC, putC, isBor, setN, runV, runR, runO, env0, headB, txN, txT, txsCons, txsNil, List.map, List.length, List.replicate, List.append, addI, subI, leI, ltI, gtI, geI, eqI, neI, g1, lenL, lenT, intI, hC, g0, g1_, xi]) rfl rfl ?_)
      show Wp _ [some (.b (hC ⟨cs, a, 0, c, e⟩)), some (.p (.int n)), some (.p (.int (atZ cs a))), none, none] _
      refine wp_seq (wp_put (d := .int (a + 1)) (j := 1) (δ1 := [some (.b (hC ⟨cs, a, 0, c, e⟩)), some (.p (.int n)), some (.p (.int (atZ cs a))), none, none]) (by simp [sSeq, sDrop, sIf, sRet, sRetO, sRetN, sSet, sSetO, sPar, sApp, sPut, sAug, sNext, sBreak, eFn, oFn, eRef, eArgs, eArgs.dsOf, mP, mO, mNil, eVar, eC, eOp, oOp, eCall, oCall, eOwn, hVal, hName, Hd.d, slotD, aCons, aNil, hds, vals, oLst, eTup, eIf, eAnd, eOr, eNot, eNeg, gNeg, eIsN, eChain, bE, bAnd, bOr, bNot, bYes, eSl, oSl, pSo, pNo, iSeq, iRange, iEnumD, iZipD, Ct.d, Sl.d, ownC, putC, isBor, setN, runV, runR, runO, env0, headB, txN, txT, txsCons, txsNil, List.map, List.length, List.replicate, List.append, addI, subI, leI, ltI, gtI, geI, eqI, neI, g1, lenL, lenT, intI, hC, g1_]) rfl rfl rfl rfl rfl ?_)
      show Wp _ [some (.b (hC ⟨cs, a + 1, 0, c, e⟩)), some (.p (.int n)), some (.p (.int (atZ cs a))), none, none] _
      have c0 : 0 ≤ c ∧ c < 2147483648 := x.c
      have m1 := mulI (a := c) (b := 69621) (small40 c0.1 (by omega)) (small40 (by decide) (by decide))
      have m2 := mulI (a := atZ cs a) (b := 40692) (small40 cell.1 (by omega)) (small40 (by decide) (by decide))
      have md := modI (a := c * 69621 + atZ cs a * 40692 + 41) (b := 2147483629) (by decide)
      refine wp_seq (wp_put (d := .int ((c * 69621 + atZ cs a * 40692 + 41) % 2147483629)) (j := 3) (δ1 := [some (.b (hC ⟨cs, a + 1, 0, c, e⟩)), some (.p (.int n)), some (.p (.int (atZ cs a))), none, none]) (by simp [sSeq, sDrop, sIf, sRet, sRetO, sRetN, sSet, sSetO, sPar, sApp, sPut, sAug, sNext, sBreak, eFn, oFn, eRef, eArgs, eArgs.dsOf, mP, mO, mNil, eVar, eC, eOp, oOp, eCall, oCall, eOwn, hVal, hName, Hd.d, slotD, aCons, aNil, hds, vals, oLst, eTup, eIf, eAnd, eOr, eNot, eNeg, gNeg, eIsN, eChain, bE, bAnd, bOr, bNot, bYes, eSl, oSl, pSo, pNo, iSeq, iRange, iEnumD, iZipD, Ct.d, Sl.d, ownC, putC, isBor, setN, runV, runR, runO, env0, headB, txN, txT, txsCons, txsNil, List.map, List.length, List.replicate, List.append, addI, subI, leI, ltI, gtI, geI, eqI, neI, g1, lenL, lenT, intI, hC, g3, m1, m2, md]) rfl rfl rfl rfl rfl ?_)
      show Wp _ [some (.b (hC ⟨cs, a + 1, 0, (c * 69621 + atZ cs a * 40692 + 41) % 2147483629, e⟩)), some (.p (.int n)), some (.p (.int (atZ cs a))), none, none] _
      have ok : ∀ b, (0 ≤ b ∧ b < 10000000000000000000000000000000000000000) → HOk m ⟨cs, a + 1, b, (c * 69621 + atZ cs a * 40692 + 41) % 2147483629, e⟩ := fun b hb => ⟨x.cs, x.len, show 0 ≤ a + 1 by omega, hb, show 0 ≤ (c * 69621 + atZ cs a * 40692 + 41) % 2147483629 ∧ (c * 69621 + atZ cs a * 40692 + 41) % 2147483629 < 2147483648 by omega, x.e⟩
      refine wp_if (b := decide (1000000000000000000 ≤ atZ cs a)) (δ1 := [some (.b (hC ⟨cs, a + 1, 0, (c * 69621 + atZ cs a * 40692 + 41) % 2147483629, e⟩)), some (.p (.int n)), some (.p (.int (atZ cs a))), none, none]) (by simp [sSeq, sDrop, sIf, sRet, sRetO, sRetN, sSet, sSetO, sPar, sApp, sPut, sAug, sNext, sBreak, eFn, oFn, eRef, eArgs, eArgs.dsOf, mP, mO, mNil, eVar, eC, eOp, oOp, eCall, oCall, eOwn, hVal, hName, Hd.d, slotD, aCons, aNil, hds, vals, oLst, eTup, eIf, eAnd, eOr, eNot, eNeg, gNeg, eIsN, eChain, bE, bAnd, bOr, bNot, bYes, eSl, oSl, pSo, pNo, iSeq, iRange, iEnumD, iZipD, Ct.d, Sl.d, ownC, putC, isBor, setN, runV, runR, runO, env0, headB, txN, txT, txsCons, txsNil, List.map, List.length, List.replicate, List.append, addI, subI, leI, ltI, gtI, geI, eqI, neI, g1, lenL, lenT, intI, pow18]) (fun _ => ?_) fun _ => ?_
      · exact wp_put (d := .int (atZ cs a)) (j := 2) (δ1 := [some (.b (hC ⟨cs, a + 1, 0, (c * 69621 + atZ cs a * 40692 + 41) % 2147483629, e⟩)), some (.p (.int n)), some (.p (.int (atZ cs a))), none, none]) rfl rfl rfl rfl rfl rfl ⟨⟨cs, a + 1, atZ cs a, (c * 69621 + atZ cs a * 40692 + 41) % 2147483629, e⟩, some (.int (atZ cs a)), ok _ cell, rfl⟩
      · exact wp_next ⟨⟨cs, a + 1, 0, (c * 69621 + atZ cs a * 40692 + 41) % 2147483629, e⟩, some (.int (atZ cs a)), ok _ (by decide), rfl⟩
  · refine wp_f (δ1 := [some (.b (hC ⟨cs, a, b, c, e⟩)), some (.p (.int n)), none, none, none]) ?_ (wp_next ⟨_, none, x, rfl⟩)
    have l : (iD cs).length = cs.length := iD_len cs
    by_cases b0 : b = 0
    · have a0 : ¬ a < cs.length := fun z => c1 ⟨b0, z⟩
      simp [sSeq, sDrop, sIf, sRet, sRetO, sRetN, sSet, sSetO, sPar, sApp, sPut, sAug, sNext, sBreak, eFn, oFn, eRef, eArgs, eArgs.dsOf, mP, mO, mNil, eVar, eC, eOp, oOp, eCall, oCall, eOwn, hVal, hName, Hd.d, slotD, aCons, aNil, hds, vals, oLst, eTup, eIf, eAnd, eOr, eNot, eNeg, gNeg, eIsN, eChain, bE, bAnd, bOr, bNot, bYes, eSl, oSl, pSo, pNo, iSeq, iRange, iEnumD, iZipD, Ct.d, Sl.d, ownC, putC, isBor, setN, runV, runR, runO, env0, headB, txN, txT, txsCons, txsNil, List.map, List.length, List.replicate, List.append, addI, subI, leI, ltI, gtI, geI, eqI, neI, g1, lenL, lenT, intI, hC, g0, g1_, g2, b0, l, a0]
    · simp [sSeq, sDrop, sIf, sRet, sRetO, sRetN, sSet, sSetO, sPar, sApp, sPut, sAug, sNext, sBreak, eFn, oFn, eRef, eArgs, eArgs.dsOf, mP, mO, mNil, eVar, eC, eOp, oOp, eCall, oCall, eOwn, hVal, hName, Hd.d, slotD, aCons, aNil, hds, vals, oLst, eTup, eIf, eAnd, eOr, eNot, eNeg, gNeg, eIsN, eChain, bE, bAnd, bOr, bNot, bYes, eSl, oSl, pSo, pNo, iSeq, iRange, iEnumD, iZipD, Ct.d, Sl.d, ownC, putC, isBor, setN, runV, runR, runO, env0, headB, txN, txT, txsCons, txsNil, List.map, List.length, List.replicate, List.append, addI, subI, leI, ltI, gtI, geI, eqI, neI, g1, lenL, lenT, intI, hC, g2, b0]
theorem v_draw {m : Nat} (hm : m ≤ 100000) {h : Hnd} (x : HOk m h) {n : Int} (h0 : 0 < n) (h1 : n ≤ 1000000000000) : ∃ r h', F__law_draw (hC h) [.int n] = some (.int r, hC h') ∧ 0 ≤ r ∧ r < n ∧ HOk (m + 1) h' := by
  have key : ∃ r h', Wp s__law_draw [some (.b (hC h)), some (.p (.int n)), none, none, none] (fun f => ∃ δ, (f = .rt (.p (.int r)) δ ∨ (D.int r = .non ∧ f = .nx δ)) ∧ headB δ = some (hC h')) ∧ 0 ≤ r ∧ r < n ∧ HOk (m + 1) h' := by
    obtain ⟨f, e1, h2, z, ok, rfl⟩ := drawA x n
    obtain ⟨cs, a, b, c, e⟩ := h2
    have ob : 0 ≤ b ∧ b < 10000000000000000000000000000000000000000 := ok.b
    have oc : 0 ≤ c ∧ c < 2147483648 := ok.c
    have oe : 0 ≤ e ∧ e ≤ m := ok.e
    have sn : small n = true := small40 (by omega) (by omega)
    by_cases cb : 0 < b
    · have md := modI (a := b) (b := n) h0
      have dv := divI (a := b) (b := n) h0 sn
      have q0 := Int.emod_nonneg b (show n ≠ 0 by omega)
      have q1 := Int.emod_lt_of_pos b h0
      have d0 : 0 ≤ b / n := Int.ediv_nonneg ob.1 (by omega)
      have d1 : b / n ≤ b := Int.ediv_le_self _ ob.1
      refine ⟨b % n, ⟨cs, a, b / n, c, e⟩, wp_seq ⟨_, e1, ?_⟩, q0, q1, ok.cs, ok.len, ok.a, ⟨d0, show b / n < _ by omega⟩, oc, oe.1, show e ≤ ((m + 1 : Nat) : Int) by have := oe.2; have : e ≤ m := this; omega⟩
      refine wp_seq (wp_t (δ1 := [some (.b (hC ⟨cs, a, b, c, e⟩)), some (.p (.int n)), z.map .p, none, none]) (by simp [sSeq, sDrop, sIf, sRet, sRetO, sRetN, sSet, sSetO, sPar, sApp, sPut, sAug, sNext, sBreak, eFn, oFn, eRef, eArgs, eArgs.dsOf, mP, mO, mNil, eVar, eC, eOp, oOp, eCall, oCall, eOwn, hVal, hName, Hd.d, slotD, aCons, aNil, hds, vals, oLst, eTup, eIf, eAnd, eOr, eNot, eNeg, gNeg, eIsN, eChain, bE, bAnd, bOr, bNot, bYes, eSl, oSl, pSo, pNo, iSeq, iRange, iEnumD, iZipD, Ct.d, Sl.d, ownC, putC, isBor, setN, runV, runR, runO, env0, headB, txN, txT, txsCons, txsNil, List.map, List.length, List.replicate, List.append, addI, subI, leI, ltI, gtI, geI, eqI, neI, g1, lenL, lenT, intI, hC, g2, cb]) ?_)
      refine wp_seq (wp_set (d := .int (b % n)) (δ1 := [some (.b (hC ⟨cs, a, b, c, e⟩)), some (.p (.int n)), z.map .p, none, none]) (by simp [sSeq, sDrop, sIf, sRet, sRetO, sRetN, sSet, sSetO, sPar, sApp, sPut, sAug, sNext, sBreak, eFn, oFn, eRef, eArgs, eArgs.dsOf, mP, mO, mNil, eVar, eC, eOp, oOp, eCall, oCall, eOwn, hVal, hName, Hd.d, slotD, aCons, aNil, hds, vals, oLst, eTup, eIf, eAnd, eOr, eNot, eNeg, gNeg, eIsN, eChain, bE, bAnd, bOr, bNot, bYes, eSl, oSl, pSo, pNo, iSeq, iRange, iEnumD, iZipD, Ct.d, Sl.d, ownC, putC, isBor, setN, runV, runR, runO, env0, headB, txN, txT, txsCons, txsNil, List.map, List.length, List.replicate, List.append, addI, subI, leI, ltI, gtI, geI, eqI, neI, g1, lenL, lenT, intI, hC, g2, md]) rfl rfl ?_)
      show Wp _ [some (.b (hC ⟨cs, a, b, c, e⟩)), some (.p (.int n)), z.map .p, some (.p (.int (b % n))), none] _
      refine wp_seq (wp_put (d := .int (b / n)) (j := 2) (δ1 := [some (.b (hC ⟨cs, a, b, c, e⟩)), some (.p (.int n)), z.map .p, some (.p (.int (b % n))), none]) (by simp [sSeq, sDrop, sIf, sRet, sRetO, sRetN, sSet, sSetO, sPar, sApp, sPut, sAug, sNext, sBreak, eFn, oFn, eRef, eArgs, eArgs.dsOf, mP, mO, mNil, eVar, eC, eOp, oOp, eCall, oCall, eOwn, hVal, hName, Hd.d, slotD, aCons, aNil, hds, vals, oLst, eTup, eIf, eAnd, eOr, eNot, eNeg, gNeg, eIsN, eChain, bE, bAnd, bOr, bNot, bYes, eSl, oSl, pSo, pNo, iSeq, iRange, iEnumD, iZipD, Ct.d, Sl.d, ownC, putC, isBor, setN, runV, runR, runO, env0, headB, txN, txT, txsCons, txsNil, List.map, List.length, List.replicate, List.append, addI, subI, leI, ltI, gtI, geI, eqI, neI, g1, lenL, lenT, intI, hC, g2, dv]) rfl rfl rfl rfl rfl ?_)
      exact wp_ret (ev_p rfl) ⟨_, .inl rfl, rfl⟩
    · have he2 : e ≤ m := oe.2
      have m1 := mulI (a := 7919) (b := e + 1) (small40 (by decide) (by decide)) (small40 (by have := oe.1; have : 0 ≤ e := this; omega) (by omega))
      have he0 : 0 ≤ e := oe.1
      have hc0 : 0 ≤ c := oc.1
      have hc1 : c < 2147483648 := oc.2
      have m2 := mulI (a := c + 7919 * (e + 1)) (b := 48271) (small40 (by omega) (by omega)) (small40 (by decide) (by decide))
      generalize hn1 : ((c + 7919 * (e + 1)) * 48271) % 2147483647 = n1
      have n1a : 0 ≤ n1 ∧ n1 < 2147483647 := by omega
      have k1 := modI (a := (c + 7919 * (e + 1)) * 48271) (b := 2147483647) (by decide)
      rw [hn1] at k1
      have dv1 := divI (a := n1) (b := 1009) (by decide) (small40 (by decide) (by decide))
      have dq1 : 0 ≤ n1 / 1009 ∧ n1 / 1009 ≤ n1 := by omega
      have m3 := mulI (a := n1) (b := n1 / 1009 + 69621) (small40 n1a.1 (by omega)) (small40 (by omega) (by omega))
      have k2 := modI (a := n1 * (n1 / 1009 + 69621)) (b := 2147483647) (by decide)
      have p1 : 0 ≤ n1 * (n1 / 1009 + 69621) := Int.mul_nonneg n1a.1 (by omega)
      generalize hn2 : (n1 * (n1 / 1009 + 69621)) % 2147483647 = n2 at k2
      have n2a : 0 ≤ n2 ∧ n2 < 2147483647 := by omega
      have dv2 := divI (a := n2) (b := 2003) (by decide) (small40 (by decide) (by decide))
      have dq2 : 0 ≤ n2 / 2003 ∧ n2 / 2003 ≤ n2 := by omega
      have m4 := mulI (a := n2) (b := n2 / 2003 + 40692) (small40 n2a.1 (by omega)) (small40 (by omega) (by omega))
      have k3 := modI (a := n2 * (n2 / 2003 + 40692)) (b := 2147483399) (by decide)
      have p2 : 0 ≤ n2 * (n2 / 2003 + 40692) := Int.mul_nonneg n2a.1 (by omega)
      generalize hn3 : (n2 * (n2 / 2003 + 40692)) % 2147483399 = n3 at k3
      have n3a : 0 ≤ n3 ∧ n3 < 2147483399 := by omega
      have dv3 := divI (a := n3) (b := 16) (by decide) (small40 (by decide) (by decide))
      have k4 := modI (a := n3 / 16) (b := n) h0
      have q0 := Int.emod_nonneg (n3 / 16) (show n ≠ 0 by omega)
      have q1 := Int.emod_lt_of_pos (n3 / 16) h0
      refine ⟨n3 / 16 % n, ⟨cs, a, b, c, e + 1⟩, wp_seq ⟨_, e1, ?_⟩, q0, q1, ok.cs, ok.len, ok.a, ob, oc, show 0 ≤ e + 1 by omega, show e + 1 ≤ ((m + 1 : Nat) : Int) by omega⟩
      refine wp_seq (wp_f (δ1 := [some (.b (hC ⟨cs, a, b, c, e⟩)), some (.p (.int n)), z.map .p, none, none]) (by simp [sSeq, sDrop, sIf, sRet, sRetO, sRetN, sSet, sSetO, sPar, sApp, sPut, sAug, sNext, sBreak, eFn, oFn, eRef, eArgs, eArgs.dsOf, mP, mO, mNil, eVar, eC, eOp, oOp, eCall, oCall, eOwn, hVal, hName, Hd.d, slotD, aCons, aNil, hds, vals, oLst, eTup, eIf, eAnd, eOr, eNot, eNeg, gNeg, eIsN, eChain, bE, bAnd, bOr, bNot, bYes, eSl, oSl, pSo, pNo, iSeq, iRange, iEnumD, iZipD, Ct.d, Sl.d, ownC, putC, isBor, setN, runV, runR, runO, env0, headB, txN, txT, txsCons, txsNil, List.map, List.length, List.replicate, List.append, addI, subI, leI, ltI, gtI, geI, eqI, neI, g1, lenL, lenT, intI, hC, g2, cb]) (wp_next ?_))
      refine wp_seq (wp_put (d := .int (e + 1)) (j := 4) (δ1 := [some (.b (hC ⟨cs, a, b, c, e⟩)), some (.p (.int n)), z.map .p, none, none]) (by simp [sSeq, sDrop, sIf, sRet, sRetO, sRetN, sSet, sSetO, sPar, sApp, sPut, sAug, sNext, sBreak, eFn, oFn, eRef, eArgs, eArgs.dsOf, mP, mO, mNil, eVar, eC, eOp, oOp, eCall, oCall, eOwn, hVal, hName, Hd.d, slotD, aCons, aNil, hds, vals, oLst, eTup, eIf, eAnd, eOr, eNot, eNeg, gNeg, eIsN, eChain, bE, bAnd, bOr, bNot, bYes, eSl, oSl, pSo, pNo, iSeq, iRange, iEnumD, iZipD, Ct.d, Sl.d, ownC, putC, isBor, setN, runV, runR, runO, env0, headB, txN, txT, txsCons, txsNil, List.map, List.length, List.replicate, List.append, addI, subI, leI, ltI, gtI, geI, eqI, neI, g1, lenL, lenT, intI, hC, g4]) rfl rfl rfl rfl rfl ?_)
      show Wp _ [some (.b (hC ⟨cs, a, b, c, e + 1⟩)), some (.p (.int n)), z.map .p, none, none] _
      refine wp_seq (wp_set (d := .int n1) (δ1 := [some (.b (hC ⟨cs, a, b, c, e + 1⟩)), some (.p (.int n)), z.map .p, none, none]) (by simp [sSeq, sDrop, sIf, sRet, sRetO, sRetN, sSet, sSetO, sPar, sApp, sPut, sAug, sNext, sBreak, eFn, oFn, eRef, eArgs, eArgs.dsOf, mP, mO, mNil, eVar, eC, eOp, oOp, eCall, oCall, eOwn, hVal, hName, Hd.d, slotD, aCons, aNil, hds, vals, oLst, eTup, eIf, eAnd, eOr, eNot, eNeg, gNeg, eIsN, eChain, bE, bAnd, bOr, bNot, bYes, eSl, oSl, pSo, pNo, iSeq, iRange, iEnumD, iZipD, Ct.d, Sl.d, ownC, putC, isBor, setN, runV, runR, runO, env0, headB, txN, txT, txsCons, txsNil, List.map, List.length, List.replicate, List.append, addI, subI, leI, ltI, gtI, geI, eqI, neI, g1, lenL, lenT, intI, hC, g3, g4, m1, m2, k1]) rfl rfl ?_)
      show Wp _ [some (.b (hC ⟨cs, a, b, c, e + 1⟩)), some (.p (.int n)), z.map .p, none, some (.p (.int n1))] _
      refine wp_seq (wp_set (d := .int n2) (δ1 := [some (.b (hC ⟨cs, a, b, c, e + 1⟩)), some (.p (.int n)), z.map .p, none, some (.p (.int n1))]) (by simp [sSeq, sDrop, sIf, sRet, sRetO, sRetN, sSet, sSetO, sPar, sApp, sPut, sAug, sNext, sBreak, eFn, oFn, eRef, eArgs, eArgs.dsOf, mP, mO, mNil, eVar, eC, eOp, oOp, eCall, oCall, eOwn, hVal, hName, Hd.d, slotD, aCons, aNil, hds, vals, oLst, eTup, eIf, eAnd, eOr, eNot, eNeg, gNeg, eIsN, eChain, bE, bAnd, bOr, bNot, bYes, eSl, oSl, pSo, pNo, iSeq, iRange, iEnumD, iZipD, Ct.d, Sl.d, ownC, putC, isBor, setN, runV, runR, runO, env0, headB, txN, txT, txsCons, txsNil, List.map, List.length, List.replicate, List.append, addI, subI, leI, ltI, gtI, geI, eqI, neI, g1, lenL, lenT, intI, dv1, m3, k2]) rfl rfl ?_)
      show Wp _ [some (.b (hC ⟨cs, a, b, c, e + 1⟩)), some (.p (.int n)), z.map .p, none, some (.p (.int n2))] _
      refine wp_seq (wp_set (d := .int n3) (δ1 := [some (.b (hC ⟨cs, a, b, c, e + 1⟩)), some (.p (.int n)), z.map .p, none, some (.p (.int n2))]) (by simp [sSeq, sDrop, sIf, sRet, sRetO, sRetN, sSet, sSetO, sPar, sApp, sPut, sAug, sNext, sBreak, eFn, oFn, eRef, eArgs, eArgs.dsOf, mP, mO, mNil, eVar, eC, eOp, oOp, eCall, oCall, eOwn, hVal, hName, Hd.d, slotD, aCons, aNil, hds, vals, oLst, eTup, eIf, eAnd, eOr, eNot, eNeg, gNeg, eIsN, eChain, bE, bAnd, bOr, bNot, bYes, eSl, oSl, pSo, pNo, iSeq, iRange, iEnumD, iZipD, Ct.d, Sl.d, ownC, putC, isBor, setN, runV, runR, runO, env0, headB, txN, txT, txsCons, txsNil, List.map, List.length, List.replicate, List.append, addI, subI, leI, ltI, gtI, geI, eqI, neI, g1, lenL, lenT, intI, dv2, m4, k3]) rfl rfl ?_)
      show Wp _ [some (.b (hC ⟨cs, a, b, c, e + 1⟩)), some (.p (.int n)), z.map .p, none, some (.p (.int n3))] _
      exact wp_ret (d := .int (n3 / 16 % n)) (δ1 := [some (.b (hC ⟨cs, a, b, c, e + 1⟩)), some (.p (.int n)), z.map .p, none, some (.p (.int n3))]) (by simp [sSeq, sDrop, sIf, sRet, sRetO, sRetN, sSet, sSetO, sPar, sApp, sPut, sAug, sNext, sBreak, eFn, oFn, eRef, eArgs, eArgs.dsOf, mP, mO, mNil, eVar, eC, eOp, oOp, eCall, oCall, eOwn, hVal, hName, Hd.d, slotD, aCons, aNil, hds, vals, oLst, eTup, eIf, eAnd, eOr, eNot, eNeg, gNeg, eIsN, eChain, bE, bAnd, bOr, bNot, bYes, eSl, oSl, pSo, pNo, iSeq, iRange, iEnumD, iZipD, Ct.d, Sl.d, ownC, putC, isBor, setN, runV, runR, runO, env0, headB, txN, txT, txsCons, txsNil, List.map, List.length, List.replicate, List.append, addI, subI, leI, ltI, gtI, geI, eqI, neI, g1, lenL, lenT, intI, dv3, k4]) ⟨_, .inl rfl, rfl⟩
  obtain ⟨r, h', w, r0, r1, ok⟩ := key
  exact ⟨r, h', runR_wp w, r0, r1, ok⟩
end K15

namespace K15
open PySem PySem.Spec PyProof.Rows L2 DL
theorem v_any {m : Nat} (hm : m ≤ 100000) {h : Hnd} (x : HOk m h) {ds : List D} (h0 : 0 < ds.length) (h1 : ds.length ≤ 1000000) : ∃ d h', F__law_any (hC h) [.lst ds] = some (d, hC h') ∧ d ∈ ds ∧ HOk (m + 1) h' := by
  obtain ⟨r, h', e, r0, r1, ok⟩ := v_draw hm x (n := ds.length) (by omega) (by omega)
  obtain ⟨j, rfl⟩ : ∃ j : Nat, r = j := ⟨r.toNat, by omega⟩
  have hj : j < ds.length := by omega
  refine ⟨ds[j], h', runR_wp ?_, List.getElem_mem _, ok⟩
  show Wp _ [some (.b (hC h)), some (.p (.lst ds))] _
  refine wp_ret (δ1 := [some (.b (hC h')), some (.p (.lst ds))]) (e_op rfl (h_val (e_ref rfl (m_p (e_call rfl rfl rfl) m_nil) rfl rfl e rfl)) rfl rfl (ixG (by omega) ?_)) ⟨_, .inl rfl, rfl⟩
  show ds[((j : Nat) : Int).toNat]? = _
  rw [Int.toNat_natCast, List.getElem?_eq_getElem hj]
theorem wp_retO {ox : OX} {c : Ct} {δ δ1 : DEnv} {Q : Fl → Prop} (e : ox δ = some (c, δ1)) (q : Q (.rt (.o c) δ1)) : Wp (sRetO ox) δ Q := ⟨_, by unfold sRetO; rw [e]; rfl, q⟩
theorem pow40 : gPow (.int 10) (.int 40) = some (.int 10000000000000000000000000000000000000000) := rfl
theorem v_hand (ns : List Int) : ∃ h, F__law_hand [.ro (ns.map .int)] = some (hC h) ∧ HOk 0 h := by
  let cells : List Int := (ns.take 63).map fun i => (if i < 0 then -i else i) % 10000000000000000000000000000000000000000
  have cl : cells.length ≤ 63 := by simp [cells]; omega
  refine ⟨⟨cells, 0, 0, 7451 + 37 * cells.length, 0⟩, runO_wp ?_, fun x hx => ?_, cl, show (0 : Int) ≤ 0 by decide, show (0 : Int) ≤ 0 ∧ (0 : Int) < 10000000000000000000000000000000000000000 by decide, show 0 ≤ 7451 + 37 * (cells.length : Int) ∧ 7451 + 37 * (cells.length : Int) < 2147483648 by omega, show (0 : Int) ≤ 0 ∧ (0 : Int) ≤ ((0 : Nat) : Int) by decide⟩
  · show Wp _ [some (.p (.ro (ns.map .int))), none, none] _
    have lc : oLc (iSeq (eSl gSl (hName 0) pNo (pSo (eC (.int 63))))) (txN 2) bYes (eOp gMod (hVal (eCall (g1 dInt) (aCons (hVal (eCall (g1 dAbs) (aCons (hVal (eCall (g1 dInt) (aCons (hName 2) aNil))) aNil))) aNil))) (hVal (eOp gPow (hVal (eC (.int 10))) (hVal (eC (.int 40)))))) [2] [some (.p (.ro (ns.map .int))), none, none]
        = some (.lst (iD cells), [some (.p (.ro (ns.map .int))), none, none]) := by
      show _ = some (Ct.lst (iD ((ns.take 63).map fun i => (if i < 0 then -i else i) % 10000000000000000000000000000000000000000)), ([some (.p (.ro (ns.map .int))), none, none] : DEnv))
      rw [iD_map, ← fmap_some (fun i : Int => D.int ((if i < 0 then -i else i) % 10000000000000000000000000000000000000000))]
      refine oLc_pure (vs := [2]) (δ := [some (.p (.ro (ns.map .int))), none, none]) (fun i : Int => D.int i) _ (ns.take 63) ?_ rfl rfl rfl (fun i hi => ?_) (by simp [lim]; omega)
      · have ct := cut_to (ns.map D.int) 63
        rw [← List.map_take] at ct
        have ct' : DL.cutD (ns.map D.int) none (some 63) = (ns.take 63).map D.int := ct
        simp [sSeq, sDrop, sIf, sRet, sRetO, sRetN, sSet, sSetO, sPar, sApp, sPut, sAug, sNext, sBreak, eFn, oFn, eRef, eArgs, eArgs.dsOf, mP, mO, mNil, eVar, eC, eOp, oOp, eCall, oCall, eOwn, hVal, hName, Hd.d, slotD, aCons, aNil, hds, vals, oLst, eTup, eIf, eAnd, eOr, eNot, eNeg, gNeg, eIsN, eChain, bE, bAnd, bOr, bNot, bYes, eSl, oSl, pSo, pNo, iSeq, iRange, iEnumD, iZipD, Ct.d, Sl.d, ownC, putC, isBor, setN, runV, runR, runO, env0, headB, txN, txT, txsCons, txsNil, List.map, List.length, List.replicate, List.append, addI, subI, leI, ltI, gtI, geI, eqI, neI, g1, lenL, lenT, intI, gSl, ct']
      · have md := modI (a := if i < 0 then -i else i) (b := 10000000000000000000000000000000000000000) (by decide)
        have da : dAbs (.int i) = some (.int (if i < 0 then -i else i)) := rfl
        refine ⟨[some (.p (.ro (ns.map .int))), none, some (.p (.int i))], by simp [sSeq, sDrop, sIf, sRet, sRetO, sRetN, sSet, sSetO, sPar, sApp, sPut, sAug, sNext, sBreak, eFn, oFn, eRef, eArgs, eArgs.dsOf, mP, mO, mNil, eVar, eC, eOp, oOp, eCall, oCall, eOwn, hVal, hName, Hd.d, slotD, aCons, aNil, hds, vals, oLst, eTup, eIf, eAnd, eOr, eNot, eNeg, gNeg, eIsN, eChain, bE, bAnd, bOr, bNot, bYes, eSl, oSl, pSo, pNo, iSeq, iRange, iEnumD, iZipD, Ct.d, Sl.d, ownC, putC, isBor, setN, runV, runR, runO, env0, headB, txN, txT, txsCons, txsNil, List.map, List.length, List.replicate, List.append, addI, subI, leI, ltI, gtI, geI, eqI, neI, g1, lenL, lenT, intI], .inr ⟨_, _, [some (.p (.ro (ns.map .int))), none, some (.p (.int i))], rfl, rfl, ?_, rfl⟩⟩
        exact e_op (h_val (e_call (a_val (e_call (a_val (e_call (a_nm rfl a_nil) rfl rfl) a_nil) rfl da) a_nil) rfl rfl)) (h_val (e_op rfl rfl rfl rfl pow40)) rfl rfl md
    refine wp_seq (wp_setO lc rfl rfl ?_)
    show Wp _ [some (.p (.ro (ns.map .int))), some (.o (.lst (iD cells))), none] _
    have l : dLen (.lst (iD cells)) = some (.int cells.length) := by show some (D.int (iD cells).length) = _; rw [iD_len]
    have mu := mulI (a := 37) (b := cells.length) (small40 (by decide) (by decide)) (small40 (by omega) (by omega))
    exact wp_retO (o_lst (a_val (ev_o rfl) (a_val rfl (a_val rfl (a_val (e_op rfl (h_val (e_op rfl (h_val (e_call (a_nm rfl a_nil) rfl l)) rfl rfl mu)) rfl rfl (addI _ _)) (a_val rfl a_nil))))) rfl (by simp [lim])) ⟨_, rfl⟩
  · obtain ⟨i, _, rfl⟩ := List.mem_map.mp hx
    exact ⟨Int.emod_nonneg _ (by decide), Int.emod_lt_of_pos _ (by decide)⟩

/-! ### the rods drawn -/
theorem toPyA_ints : ∀ (ns : List Int), toPyA (iD ns) = some (ns.map PyData.int)
  | [] => rfl
  | n :: ns => by
    show (toPy (.int n)).bind _ = _
    show (toPyA (iD ns)).bind _ = _
    rw [toPyA_ints ns]; rfl
theorem shaped_ints (ns : List Int) : SeqAt.shaped (.list (ns.map PyData.int)) = true := by
  have a : ∀ ns : List Int, PyData.canLayAll0 (ns.map PyData.int) = true := fun ns => by
    induction ns with
    | nil => rfl
    | cons n ns ih => show (PyData.canLay0 (.int n) && PyData.canLayAll0 (ns.map PyData.int)) = true; rw [ih]; rfl
  have b : ∀ ns : List Int, PyData.depthAll (ns.map PyData.int) = 0 := fun ns => by
    induction ns with
    | nil => rfl
    | cons n ns ih => show max 0 (PyData.depthAll (ns.map PyData.int)) = 0; rw [ih]; rfl
  show (PyData.canLayAll0 (ns.map PyData.int) && decide (PyData.depthAll (ns.map PyData.int) + 1 ≤ 64)) = true
  rw [a, b]; rfl
theorem notin_ints (k : Int) (ns : List Int) : gNotInL (.int k) (.lst (iD ns)) = some (.bl (!decide (k ∈ ns))) := by
  have e : dIn (.int k) (.lst (iD ns)) = some (decide (k ∈ ns)) := by
    show ((toPy (.int k)).bind fun a => (toPyA (iD ns)).bind fun bs => if SeqAt.shaped a && SeqAt.shaped (.list bs) then some (bs.any fun z => PyData.eqv z a) else none) = _
    show ((toPyA (iD ns)).bind fun bs => if SeqAt.shaped (.int k) && SeqAt.shaped (.list bs) then some (bs.any fun z => PyData.eqv z (.int k)) else none) = _
    rw [toPyA_ints]
    show (if SeqAt.shaped (.int k) && SeqAt.shaped (.list (ns.map PyData.int)) then some ((ns.map PyData.int).any fun z => PyData.eqv z (.int k)) else none) = _
    rw [shaped_ints, show SeqAt.shaped (.int k) = true from rfl]
    show some ((ns.map PyData.int).any fun z => PyData.eqv z (.int k)) = _
    congr 1
    rw [List.any_map]
    rw [Bool.eq_iff_iff, List.any_eq_true, decide_eq_true_eq]
    constructor
    · rintro ⟨x, hx, q⟩
      have q : (x == k) = true := q
      have : x = k := by simpa using q
      rw [← this]; exact hx
    · intro hk
      exact ⟨k, hk, show (k == k) = true by simp⟩
  show (dIn (.int k) (.lst (iD ns))).bind _ = _
  rw [e]; rfl
theorem loopC_ev {α : Type} {tx : TX} {bx : BX} {ev : EX} {vs : List Nat} (g : α → D) (P : List α → List D → DEnv → Prop) : ∀ (xs pre : List α) (acc : List D) (δ : DEnv), P pre acc δ →
    (∀ p x acc δ, x ∈ xs → p.length < pre.length + xs.length → P p acc δ → ∃ δ1 δ2 δ3 z, tx (g x) δ = some δ1 ∧ bx δ1 = some (true, δ2) ∧ ev δ2 = some (z, δ3) ∧ acc.length < lim ∧ P (p ++ [x]) (acc ++ [z]) (wipeD δ3 vs)) →
    ∃ acc' δ', loopC tx bx ev vs (xs.map g) δ acc = some (acc', δ') ∧ P (pre ++ xs) acc' δ'
  | [], pre, acc, δ, p, _ => ⟨acc, δ, rfl, by rw [List.append_nil]; exact p⟩
  | x :: xs, pre, acc, δ, p, h => by
    obtain ⟨δ1, δ2, δ3, z, e1, e2, e3, hl, p2⟩ := h pre x acc δ List.mem_cons_self (by simp) p
    obtain ⟨acc', δ', e4, p4⟩ := loopC_ev g P xs (pre ++ [x]) (acc ++ [z]) _ p2 fun q y acc δ hy hl hp => h q y acc δ (List.mem_cons_of_mem _ hy) (by simp at hl ⊢; omega) hp
    refine ⟨acc', δ', ?_, by rw [List.append_assoc] at p4; exact p4⟩
    show (tx (g x) δ).bind _ = _
    rw [e1]
    show (bx δ1).bind _ = _
    rw [e2]
    show (ev δ2).bind _ = _
    rw [e3]
    show (if acc.length < lim then loopC tx bx ev vs (xs.map g) (wipeD δ3 vs) (acc ++ [z]) else none) = _
    rw [if_pos hl]
    exact e4
/-- what _law_rods draws from -/
structure LOk (L : List Int) : Prop where
  nd : L.Nodup
  len : L.length ≤ 8
  lo : ∀ x ∈ L, 1 ≤ x ∧ x ≤ 60
theorem nodup_snoc {L : List Int} {x : Int} (h : L.Nodup) (hx : x ∉ L) : (L ++ [x]).Nodup := by
  rw [List.nodup_append]
  exact ⟨h, by simp, fun a ha b hb => by simp at hb; subst hb; exact fun e => hx (e ▸ ha)⟩
theorem v_rods {h : Hnd} (x : HOk 0 h) : ∃ R h', F__law_rods (hC h) [] = some (dR R, hC h') ∧ V R ∧ HOk 100 h' := by
  have key : ∃ R h', Wp s__law_rods [some (.b (hC h)), none, none, none, none] (fun f => ∃ δ, (f = .rt (.p (dR R)) δ ∨ (dR R = .non ∧ f = .nx δ)) ∧ headB δ = some (hC h')) ∧ V R ∧ HOk 100 h' := by
    obtain ⟨d, h1, e1, hd, ok1⟩ := v_any (by decide) x (ds := [.int 9, .int 20, .int 60]) (by decide) (by decide)
    obtain ⟨top, rfl, ht⟩ : ∃ top : Int, d = .int top ∧ 1 ≤ top ∧ top ≤ 60 := by
      simp at hd
      rcases hd with rfl | rfl | rfl <;> exact ⟨_, rfl, by decide, by decide⟩
    have par : mO (oLst aNil) (mP (eRef F__law_any 0 (mP (eOwn (oLst (aCons (hVal (eC (.int 9))) (aCons (hVal (eC (.int 20))) (aCons (hVal (eC (.int 60))) aNil))))) mNil)) mNil) [some (.b (hC h)), none, none, none, none] = some ([.o (.lst []), .p (.int top)], [some (.b (hC h1)), none, none, none, none]) :=
      m_o (o_lst a_nil rfl (by simp [lim])) (m_p (e_ref rfl (m_p (e_own (o_lst (a_val rfl (a_val rfl (a_val rfl a_nil))) rfl (by simp [lim]))) m_nil) rfl rfl e1 rfl) m_nil)
    -- the lengths
    have loop : ∃ δ', loopS (txN 3) (sSeq (sSet 4 (eOp gAdd (hVal (eC (.int 1))) (hVal (eRef F__law_draw 0 (mP (eVar 2) mNil))))) (sIf (bAnd (bE (eOp gNotInL (hName 4) (hName 1))) (bE (eOp gLt (hVal (eCall (g1 dLen) (aCons (hName 1) aNil))) (hVal (eC (.int 8)))))) (sApp 1 (eVar 4)) sNext)) (upFrom 0 40) [some (.b (hC h1)), some (.o (.lst [])), some (.p (.int top)), none, none] = some (.nx δ') ∧
        ∃ (L : List Int) (h2 : Hnd) (a b : Option D), LOk L ∧ L ≠ [] ∧ HOk 41 h2 ∧ δ' = [some (.b (hC h2)), some (.o (.lst (iD L))), some (.p (.int top)), a.map .p, b.map .p] := by
      obtain ⟨δ', e, L, h2, a, b, l1, l2, l3, l4⟩ := loopS_up (tx := txN 3) (body := sSeq (sSet 4 (eOp gAdd (hVal (eC (.int 1))) (hVal (eRef F__law_draw 0 (mP (eVar 2) mNil))))) (sIf (bAnd (bE (eOp gNotInL (hName 4) (hName 1))) (bE (eOp gLt (hVal (eCall (g1 dLen) (aCons (hName 1) aNil))) (hVal (eC (.int 8)))))) (sApp 1 (eVar 4)) sNext))
        (fun i δ => ∃ (L : List Int) (h2 : Hnd) (a b : Option D), LOk L ∧ (0 < i → L ≠ []) ∧ HOk (i + 1) h2 ∧ δ = [some (.b (hC h2)), some (.o (.lst (iD L))), some (.p (.int top)), a.map .p, b.map .p]) 0 40 [some (.b (hC h1)), some (.o (.lst [])), some (.p (.int top)), none, none] ⟨[], h1, none, none, ⟨by simp, by simp, by simp⟩, fun z => absurd z (by decide), ok1, rfl⟩ (by
          rintro i δ hi ⟨L, h2, a, b, l1, l2, l3, rfl⟩
          obtain ⟨r, h3, e3, r0, r1, ok3⟩ := v_draw (by omega) l3 (n := top) (by omega) (by omega)
          have w : Wp (sSeq (sSet 4 (eOp gAdd (hVal (eC (.int 1))) (hVal (eRef F__law_draw 0 (mP (eVar 2) mNil))))) (sIf (bAnd (bE (eOp gNotInL (hName 4) (hName 1))) (bE (eOp gLt (hVal (eCall (g1 dLen) (aCons (hName 1) aNil))) (hVal (eC (.int 8)))))) (sApp 1 (eVar 4)) sNext)) [some (.b (hC h2)), some (.o (.lst (iD L))), some (.p (.int top)), some (.p (.int (0 + (i : Int)))), b.map .p]
              fun f => ∃ (L : List Int), LOk L ∧ L ≠ [] ∧ f = .nx [some (.b (hC h3)), some (.o (.lst (iD L))), some (.p (.int top)), some (.p (.int (0 + (i : Int)))), some (.p (.int (1 + r)))] := by
            refine wp_seq (wp_set (d := .int (1 + r)) (δ1 := [some (.b (hC h3)), some (.o (.lst (iD L))), some (.p (.int top)), some (.p (.int (0 + (i : Int)))), b.map .p]) (e_op rfl (h_val (e_ref rfl (m_p (ev_p rfl) m_nil) rfl rfl e3 rfl)) rfl rfl (addI 1 r)) (by cases b <;> rfl) (by cases b <;> rfl) ?_)
            show Wp _ [some (.b (hC h3)), some (.o (.lst (iD L))), some (.p (.int top)), some (.p (.int (0 + (i : Int)))), some (.p (.int (1 + r)))] _
            have ln : dLen (.lst (iD L)) = some (.int L.length) := by show some (D.int (iD L).length) = _; rw [iD_len]
            by_cases c1 : 1 + r ∈ L
            · exact wp_f (δ1 := [some (.b (hC h3)), some (.o (.lst (iD L))), some (.p (.int top)), some (.p (.int (0 + (i : Int)))), some (.p (.int (1 + r)))]) (b_and_f (b_e (e_op rfl rfl rfl rfl (by rw [show (Sl.o (.lst (iD L))).d = D.lst (iD L) from rfl, show (Sl.p (.int (1 + r))).d = D.int (1 + r) from rfl, notin_ints]; simp [c1])))) (wp_next ⟨L, l1, fun z => by rw [z] at c1; simp at c1, rfl⟩)
            · have nin : bE (eOp gNotInL (hName 4) (hName 1)) [some (.b (hC h3)), some (.o (.lst (iD L))), some (.p (.int top)), some (.p (.int (0 + (i : Int)))), some (.p (.int (1 + r)))] = some (true, [some (.b (hC h3)), some (.o (.lst (iD L))), some (.p (.int top)), some (.p (.int (0 + (i : Int)))), some (.p (.int (1 + r)))]) :=
                b_e (e_op rfl rfl rfl rfl (by rw [show (Sl.o (.lst (iD L))).d = D.lst (iD L) from rfl, show (Sl.p (.int (1 + r))).d = D.int (1 + r) from rfl, notin_ints]; simp [c1]))
              refine wp_if (b := decide ((L.length : Int) < 8)) (b_and_t nin (b_e (e_op (h_val (e_call (a_nm rfl a_nil) rfl ln)) rfl rfl rfl (ltI _ _)))) (fun c2 => ?_) fun c2 => ?_
              · have c2 := of_decide_eq_true c2
                refine wp_app rfl (ev_p rfl) rfl (by rw [iD_len]; simp [lim]; omega) ⟨L ++ [1 + r], ⟨nodup_snoc l1.nd c1, by simp; omega, fun y hy => ?_⟩, by simp, by rw [iD_app]; rfl⟩
                rcases List.mem_append.mp hy with hy | hy
                · exact l1.lo y hy
                · simp at hy; omega
              · have c2 := of_decide_eq_false c2
                exact wp_next ⟨L, l1, fun z => by rw [z] at c2; simp at c2, rfl⟩
          obtain ⟨f, e4, L', l1', l2', rfl⟩ := w
          exact ⟨[some (.b (hC h2)), some (.o (.lst (iD L))), some (.p (.int top)), some (.p (.int (0 + (i : Int)))), b.map .p], _, _, by cases a <;> rfl, e4, .inl rfl, L', h3, some (.int (0 + (i : Int))), some (.int (1 + r)), l1', fun _ => l2', ok3.more (by omega), rfl⟩)
      exact ⟨δ', e, L, h2, a, b, l1, l2 (by decide), l3, l4⟩
    obtain ⟨δ', e2, L, h2, a, b, l1, l2, l3, rfl⟩ := loop
    have srt : c1 cSortI [.lst (iD L)] = some (.lst (iD (sortI L))) := by
      show ((asInts (L.map D.int)).map fun ns => Ct.lst ((sortI ns).map D.int)) = _
      rw [asInts_map]; rfl
    have slen : (sortI L).length = L.length := (sortI_perm L).length_eq
    have llen := l1.len
    obtain ⟨acc, δ2, e3, R, h3, rfl, r1, r2, ok3, rfl⟩ := loopC_ev (tx := txN 4) (bx := bYes) (ev := eTup (aCons (hVal (eVar 4)) (aCons (hVal (eOp gAdd (hVal (eC (.int 1))) (hVal (eRef F__law_draw 0 (mP (eRef F__law_any 0 (mP (eOwn (oLst (aCons (hVal (eC (.int 2))) (aCons (hVal (eC (.int 9))) aNil)))) mNil)) mNil))))) aNil))) (vs := [4]) (fun i : Int => D.int i)
      (fun pre acc δ => ∃ (R : Rods) (h3 : Hnd), acc = R.map tupI ∧ R.map (·.1) = pre ∧ (∀ p ∈ R, 1 ≤ p.2 ∧ p.2 ≤ 9) ∧ HOk (41 + 2 * pre.length) h3 ∧ δ = [some (.b (hC h3)), some (.o (.lst (iD L))), some (.p (.int top)), a.map .p, none]) (sortI L) [] [] [some (.b (hC h2)), some (.o (.lst (iD L))), some (.p (.int top)), a.map .p, none] ⟨[], h2, rfl, rfl, by simp, l3, rfl⟩ (by
        rintro pre x acc δ hx hlen ⟨R, h3, rfl, q1, q2, q3, rfl⟩
        have hlen : pre.length ≤ 1000 := by simp at hlen; omega
        obtain ⟨d, h4, e4, hd4, ok4⟩ := v_any (by omega) q3 (ds := [.int 2, .int 9]) (by decide) (by decide)
        obtain ⟨k, rfl, k0, k1⟩ : ∃ k : Int, d = .int k ∧ 1 ≤ k ∧ k ≤ 9 := by
          simp at hd4
          rcases hd4 with rfl | rfl <;> exact ⟨_, rfl, by decide, by decide⟩
        obtain ⟨r, h5, e5, r0, r1, ok5⟩ := v_draw (by omega) ok4 (n := k) (by omega) (by omega)
        refine ⟨[some (.b (hC h3)), some (.o (.lst (iD L))), some (.p (.int top)), a.map .p, some (.p (.int x))], [some (.b (hC h3)), some (.o (.lst (iD L))), some (.p (.int top)), a.map .p, some (.p (.int x))], [some (.b (hC h5)), some (.o (.lst (iD L))), some (.p (.int top)), a.map .p, some (.p (.int x))], .tup [.int x, .int (1 + r)], by simp [sSeq, sDrop, sIf, sRet, sRetO, sRetN, sSet, sSetO, sPar, sApp, sPut, sAug, sNext, sBreak, eFn, oFn, eRef, eArgs, eArgs.dsOf, mP, mO, mNil, eVar, eC, eOp, oOp, eCall, oCall, eOwn, hVal, hName, Hd.d, slotD, aCons, aNil, hds, vals, oLst, eTup, eIf, eAnd, eOr, eNot, eNeg, gNeg, eIsN, eChain, bE, bAnd, bOr, bNot, bYes, eSl, oSl, pSo, pNo, iSeq, iRange, iEnumD, iZipD, Ct.d, Sl.d, ownC, putC, isBor, setN, runV, runR, runO, env0, headB, txN, txT, txsCons, txsNil, List.map, List.length, List.replicate, List.append, addI, subI, leI, ltI, gtI, geI, eqI, neI, g1, lenL, lenT, intI], rfl, ?_, ?_, R ++ [(x, 1 + r)], h5, by rw [List.map_append]; rfl, by rw [List.map_append, q1]; rfl, ?_, by rw [List.length_append]; exact ok5.more (by simp; omega), rfl⟩
        · exact e_tup (a_val (ev_p rfl) (a_val (e_op rfl (h_val (e_ref rfl (m_p (e_ref rfl (m_p (e_own (o_lst (a_val rfl (a_val rfl a_nil)) rfl (by simp [lim]))) m_nil) rfl rfl e4 rfl) m_nil) rfl rfl e5 rfl)) rfl rfl (addI 1 r)) a_nil)) rfl (by simp [lim])
        · rw [List.length_map]; have : R.length = pre.length := by rw [← q1]; simp
          simp [lim]; omega
        · intro p hp
          rcases List.mem_append.mp hp with hp | hp
          · exact q2 p hp
          · simp at hp; subst hp; show 1 ≤ 1 + r ∧ 1 + r ≤ 9; omega)
    have hk : R.map (·.1) = sortI L := by simpa using r1
    have Rlen : R.length = L.length := by have := congrArg List.length hk; simpa [slen] using this
    have ix : iSeq (eOwn (oCall (c1 cSortI) (aCons (hName 1) aNil))) [some (.b (hC h2)), some (.o (.lst (iD L))), some (.p (.int top)), a.map .p, b.map .p] = some ((sortI L).map D.int, [some (.b (hC h2)), some (.o (.lst (iD L))), some (.p (.int top)), a.map .p, b.map .p]) := by
      unfold iSeq
      rw [e_own (o_call (a_nm rfl a_nil) rfl srt)]; rfl
    have VR : V R := by
      refine ⟨fun z => l2 (by rw [z] at Rlen; exact List.length_eq_zero_iff.mp Rlen.symm), by omega, fun p hp => ?_, ?_⟩
      · have m1 : p.1 ∈ sortI L := by rw [← hk]; exact List.mem_map_of_mem hp
        have m2 := l1.lo p.1 ((sortI_perm L).mem_iff.mp m1)
        have m3 := r2 p hp
        omega
      · have s := sortI_sorted L
        have nd : (sortI L).Nodup := (sortI_perm L).nodup_iff.mpr l1.nd
        rw [← hk] at s nd
        have s' := List.pairwise_map.mp s
        have nd' := List.pairwise_map.mp nd
        exact (s'.and nd').imp fun ⟨u, v⟩ => by omega
    refine ⟨R, h3, wp_seq (wp_par rfl par rfl ?_), VR, ok3.more (by rw [List.nil_append]; omega)⟩
    show Wp _ [some (.b (hC h1)), some (.o (.lst [])), some (.p (.int top)), none, none] _
    refine wp_seq ⟨.nx [some (.b (hC h2)), some (.o (.lst (iD L))), some (.p (.int top)), a.map .p, b.map .p], ?_, ?_⟩
    · show (iRange rg1 _ _).bind _ = _
      rw [iR1 (a := 40) (n := 40) rfl rfl (by decide) (by decide) rfl]
      exact e2
    · refine wp_ret (δ1 := [some (.b (hC h3)), some (.o (.lst (iD L))), some (.p (.int top)), a.map .p, b.map .p]) (e_own (c := .lst (R.map tupI)) ?_) ⟨_, .inl rfl, rfl⟩
      show (iSeq (eOwn (oCall (c1 cSortI) (aCons (hName 1) aNil))) _).bind _ = _
      rw [ix]
      have no : noOwn [some (.b (hC h2)), some (.o (.lst (iD L))), some (.p (.int top)), a.map .p, b.map .p] [4] = true := by cases b <;> rfl
      show (if noOwn [some (.b (hC h2)), some (.o (.lst (iD L))), some (.p (.int top)), a.map .p, b.map .p] [4] then (loopC _ _ _ [4] ((sortI L).map D.int) [some (.b (hC h2)), some (.o (.lst (iD L))), some (.p (.int top)), a.map .p, none] []).bind _ else none) = _
      rw [if_pos no, e3]; rfl
  obtain ⟨R, h', w, v, ok⟩ := key
  exact ⟨R, h', runR_wp w, v, ok⟩
end K15

namespace K15
open PySem PySem.Spec PyProof.Rows L2 DL
/-! ### rows of rods -/
def dW (W : Rods) : D := .tup (W.map tupI)
def rodB (p q : Int × Int) : Bool := (decide (q.1 ≤ p.1) && decide (p.1 ≤ q.1)) && (decide (0 ≤ p.2) && decide (p.2 ≤ q.2 - 1))
def isRod (R : Rods) (p : Int × Int) : Bool := R.any (rodB p)
theorem gisi_t (xs : List D) : gIsi [.tup xs, .ty "tuple"] = some (.bl true) := by
  simp only [gIsi, tyD, Option.bind_some, kb_tt, Option.map_some]
theorem gisi_l (xs : List D) : gIsi [.lst xs, .ty "tuple"] = some (.bl false) := by
  simp only [gIsi, tyD, Option.bind_some, kb_lt, Option.map_some]
theorem e_and {a b : EX} {x y : Bool} {δ δ1 δ2 : DEnv} (h : a δ = some (.bl x, δ1)) (k : b δ1 = some (.bl y, δ1)) : eAnd a b δ = some (.bl (x && y), δ1) := by
  cases x with
  | true => simp only [eAnd, h, Option.bind_some, k, Bool.true_and]
  | false => simp only [eAnd, h, Option.bind_some, Bool.false_and]
theorem v_is_rod (R : Rods) (hl : R.length ≤ 100) (p : Int × Int) : F_is_rod [dR R, tupI p] = some (.bl (isRod R p)) := by
  refine runV_wp ?_
  show Wp _ [some (.p (dR R)), some (.p (tupI p)), none, none] _
  have i0 : (eCall gIsi (aCons (hName 1) (aCons (hVal (eC (.ty "tuple"))) aNil))) [some (.p (dR R)), some (.p (tupI p)), none, none] = some (.bl true, [some (.p (dR R)), some (.p (tupI p)), none, none]) := e_call (a_nm rfl (a_val rfl a_nil)) rfl (gisi_t _)
  refine wp_seq (wp_f (δ1 := [some (.p (dR R)), some (.p (tupI p)), none, none]) (b_or_f (b_not (b_e i0)) (b_e (e_op (h_val (e_call (a_nm rfl a_nil) rfl (show g1 dLen [tupI p] = some (.int 2) from rfl))) rfl rfl rfl (neI 2 2)))) (wp_next ?_))
  have lc : oLc (iSeq (eVar 0)) (txT 2 (txsCons (txN 2) (txsCons (txN 3) txsNil))) bYes (eAnd (eFn F_is_within (mP (eOp gIx (hName 1) (hVal (eC (.int 0)))) (mP (eVar 2) (mP (eVar 2) mNil)))) (eFn F_is_within (mP (eOp gIx (hName 1) (hVal (eC (.int 1)))) (mP (eC (.int 0)) (mP (eOp DL.gSub (hName 3) (hVal (eC (.int 1)))) mNil))))) [2, 3] [some (.p (dR R)), some (.p (tupI p)), none, none]
      = some (.lst ((R.map (rodB p)).map .bl), [some (.p (dR R)), some (.p (tupI p)), none, none]) := by
    rw [List.map_map, ← fmap_some]
    refine oLc_pure tupI _ R rfl rfl rfl rfl (fun q hq => ⟨[some (.p (dR R)), some (.p (tupI p)), some (.p (.int q.1)), some (.p (.int q.2))], by simp [sSeq, sDrop, sIf, sRet, sRetO, sRetN, sSet, sSetO, sPar, sApp, sPut, sAug, sNext, sBreak, eFn, oFn, eRef, eArgs, eArgs.dsOf, mP, mO, mNil, eVar, eC, eOp, oOp, eCall, oCall, eOwn, hVal, hName, Hd.d, slotD, aCons, aNil, hds, vals, oLst, eTup, eIf, eAnd, eOr, eNot, eNeg, gNeg, eIsN, eChain, bE, bAnd, bOr, bNot, bYes, eSl, oSl, pSo, pNo, iSeq, iRange, iEnumD, iZipD, Ct.d, Sl.d, ownC, putC, isBor, setN, runV, runR, runO, env0, headB, txN, txT, txsCons, txsNil, List.map, List.length, List.replicate, List.append, addI, subI, leI, ltI, gtI, geI, eqI, neI, g1, lenL, lenT, intI, tupI], .inr ⟨_, _, [some (.p (dR R)), some (.p (tupI p)), some (.p (.int q.1)), some (.p (.int q.2))], rfl, rfl, ?_, rfl⟩⟩) (by simp [lim]; omega)
    exact e_and (δ2 := []) (e_fn (m_p (e_op rfl rfl rfl rfl (t0 p)) (m_p (ev_p rfl) (m_p (ev_p rfl) m_nil))) rfl (v_is_within p.1 q.1 q.1)) (e_fn (m_p (e_op rfl rfl rfl rfl (t1 p)) (m_p rfl (m_p (e_op rfl rfl rfl rfl (subI q.2 1)) m_nil))) rfl (v_is_within p.2 0 (q.2 - 1)))
  have an := any_bls (R.map (rodB p))
  have e2 : (R.map (rodB p)).any id = isRod R p := by unfold isRod; rw [List.any_map]; rfl
  rw [e2] at an
  exact wp_ret (e_call (a_val (e_own lc) a_nil) rfl an) (.inl ⟨_, rfl⟩)
theorem lc_isrod {R : Rods} (h : V R) (W : Rods) (hl : W.length ≤ 10000) {i j : Nat} {δ : DEnv} (hi : δ[i]? = some (some (.p (dW W)))) (h0 : ∀ d, (δ.set j (some (.p d)))[(0 : Nat)]? = some (some (.p (dR R)))) (hj : ∀ d, (δ.set j (some (.p d)))[j]? = some (some (.p d))) (hw : wipeD δ [j] = δ) (hw2 : ∀ d, wipeD (δ.set j (some (.p d))) [j] = δ) (hno : noOwn δ [j] = true) (hb : backD δ δ [j] = δ) (hbj : isBor δ j = false) :
    oLc (iSeq (eVar i)) (txN j) bYes (eFn F_is_rod (mP (eVar 0) (mP (eVar j) mNil))) [j] δ = some (.lst ((W.map (isRod R)).map .bl), δ) := by
  rw [List.map_map, ← fmap_some]
  refine oLc_pure tupI _ W (by unfold iSeq; rw [ev_p hi]; rfl) hw hno hb (fun p hp => ⟨δ.set j (some (.p (tupI p))), by unfold txN; rw [hbj]; rfl, .inr ⟨_, _, δ.set j (some (.p (tupI p))), rfl, rfl, ?_, hw2 _⟩⟩) (by simp [lim]; omega)
  exact e_fn (m_p (ev_p (h0 _)) (m_p (ev_p (hj _)) m_nil)) rfl (v_is_rod R (by have := h.len; omega) p)
theorem lc_fst (W : Rods) (hl : W.length ≤ 10000) {i j : Nat} {δ : DEnv} (hi : δ[i]? = some (some (.p (dW W)))) (hj : ∀ d, (δ.set j (some (.p d)))[j]? = some (some (.p d))) (hw : wipeD δ [j] = δ) (hw2 : ∀ d, wipeD (δ.set j (some (.p d))) [j] = δ) (hno : noOwn δ [j] = true) (hb : backD δ δ [j] = δ) (hbj : isBor δ j = false) :
    oLc (iSeq (eVar i)) (txN j) bYes (eOp gIx (hName j) (hVal (eC (.int 0)))) [j] δ = some (.lst (iD (W.map (·.1))), δ) := by
  rw [iD_map, ← fmap_some]
  refine oLc_pure tupI _ W (by unfold iSeq; rw [ev_p hi]; rfl) hw hno hb (fun p hp => ⟨δ.set j (some (.p (tupI p))), by unfold txN; rw [hbj]; rfl, .inr ⟨_, _, δ.set j (some (.p (tupI p))), rfl, rfl, ?_, hw2 _⟩⟩) (by simp [lim]; omega)
  have hn : hName j (δ.set j (some (.p (tupI p)))) = some (.nm j, δ.set j (some (.p (tupI p)))) := by unfold hName; rw [hj]
  exact e_op hn rfl (by show slotD _ j = _; unfold slotD; rw [hj]; rfl) rfl (t0 p)
theorem v_is_filled {R : Rods} (h : V R) (n : Int) (W : Rods) (hl : W.length ≤ 10000) : F_is_filled [dR R, .int n, dW W] = some (.bl (W.all (isRod R) && decide ((W.map (·.1)).sum = n))) := by
  refine runV_wp ?_
  show Wp _ [some (.p (dR R)), some (.p (.int n)), some (.p (dW W)), none] _
  refine wp_seq (wp_drop (e_fn (m_p (ev_p rfl) m_nil) rfl (v_check_rods h)) ?_)
  show Wp _ [some (.p (dR R)), some (.p (.int n)), some (.p (dW W)), none] _
  have i0 : (eCall gIsi (aCons (hName 2) (aCons (hVal (eC (.ty "tuple"))) aNil))) [some (.p (dR R)), some (.p (.int n)), some (.p (dW W)), none] = some (.bl true, [some (.p (dR R)), some (.p (.int n)), some (.p (dW W)), none]) := e_call (a_nm rfl (a_val rfl a_nil)) rfl (gisi_t _)
  have lc := lc_isrod h W hl (i := 2) (j := 3) (δ := [some (.p (dR R)), some (.p (.int n)), some (.p (dW W)), none]) rfl (fun _ => rfl) (fun _ => rfl) rfl (fun _ => rfl) rfl rfl rfl
  have al := all_bls (W.map (isRod R))
  have e2 : (W.map (isRod R)).all id = W.all (isRod R) := by rw [List.all_map]; rfl
  rw [e2] at al
  have tst := b_or_f (a := bNot (bE (eCall gIsi (aCons (hName 2) (aCons (hVal (eC (.ty "tuple"))) aNil))))) (b_not (b_e i0)) (b_not (b_e (e_call (a_val (e_own lc) a_nil) rfl al)))
  refine wp_seq (wp_if tst (fun c => ?_) fun c => ?_)
  · have c : W.all (isRod R) = false := by simpa using c
    rw [c]
    exact wp_ret rfl (.inl ⟨_, rfl⟩)
  · have c : W.all (isRod R) = true := by simpa using c
    rw [c, Bool.true_and]
    refine wp_next ?_
    have lf := lc_fst W hl (i := 2) (j := 3) (δ := [some (.p (dR R)), some (.p (.int n)), some (.p (dW W)), none]) rfl (fun _ => rfl) rfl (fun _ => rfl) rfl rfl rfl
    exact wp_ret (e_op (h_val (e_sum lf)) rfl rfl rfl (eqI _ n)) (.inl ⟨_, rfl⟩)
theorem v_is_filled_l {R : Rods} (h : V R) (n : Int) (xs : List D) : F_is_filled [dR R, .int n, .lst xs] = some (.bl false) := by
  refine runV_wp ?_
  show Wp _ [some (.p (dR R)), some (.p (.int n)), some (.p (.lst xs)), none] _
  refine wp_seq (wp_drop (e_fn (m_p (ev_p rfl) m_nil) rfl (v_check_rods h)) ?_)
  show Wp _ [some (.p (dR R)), some (.p (.int n)), some (.p (.lst xs)), none] _
  exact wp_seq (wp_t (b_or_t (b_not (b_e (e_call (a_nm rfl (a_val rfl a_nil)) rfl (gisi_l _))))) (wp_ret rfl (.inl ⟨_, rfl⟩)))

/-! ### places of rows -/
/-- a rod of the row is one of the rods in one of its colours -/
def WR (R : Rods) (p : Int × Int) : Prop := ∃ k, (p.1, k) ∈ R ∧ 0 ≤ p.2 ∧ p.2 < k
theorem isRod_of {R : Rods} {p : Int × Int} (h : WR R p) : isRod R p = true := by
  obtain ⟨k, h1, h2, h3⟩ := h
  refine List.any_eq_true.mpr ⟨(p.1, k), h1, ?_⟩
  unfold rodB
  simp
  omega
def aheadT (cs : List Int) (left r : Int) (q : Int × Int) : Option Int := if q.1 < r ∧ q.1 ≤ left then some (q.2 * atZ cs (left - q.1)) else none
def ahead (R : Rods) (cs : List Int) (left r : Int) : Int := (R.filterMap (aheadT cs left r)).sum
def rk (R : Rods) (cs : List Int) : Int → Rods → Int
  | _, [] => 0
  | left, p :: W => ahead R cs left p.1 + p.2 * atZ cs (left - p.1) + rk R cs (left - p.1) W
def wsum (W : Rods) : Int := (W.map (·.1)).sum
theorem wsum_cons (p : Int × Int) (W : Rods) : wsum (p :: W) = p.1 + wsum W := by unfold wsum; rw [List.map_cons, List.sum_cons]
theorem wsum_app (W U : Rods) : wsum (W ++ U) = wsum W + wsum U := by unfold wsum; rw [List.map_append, List.sum_append]
theorem rk_app (R : Rods) (cs : List Int) : ∀ (W U : Rods) (left : Int), rk R cs left (W ++ U) = rk R cs left W + rk R cs (left - wsum W) U
  | [], U, left => by show rk R cs left U = 0 + rk R cs (left - wsum []) U; unfold wsum; simp
  | p :: W, U, left => by
    show ahead R cs left p.1 + p.2 * atZ cs (left - p.1) + rk R cs (left - p.1) (W ++ U) = ahead R cs left p.1 + p.2 * atZ cs (left - p.1) + rk R cs (left - p.1) W + rk R cs (left - wsum (p :: W)) U
    rw [rk_app R cs W U (left - p.1), wsum_cons, show left - p.1 - wsum W = left - (p.1 + wsum W) by omega]
    omega
theorem WR_lo {R : Rods} (h : V R) {p : Int × Int} (w : WR R p) : 1 ≤ p.1 ∧ p.1 ≤ 60 ∧ 0 ≤ p.2 ∧ p.2 ≤ 8 := by
  obtain ⟨k, h1, h2, h3⟩ := w
  have := h.lo _ h1
  simp at this
  omega
theorem wsum_nn {R : Rods} (h : V R) : ∀ {W : Rods}, (∀ p ∈ W, WR R p) → 0 ≤ wsum W ∧ (W.length : Int) ≤ wsum W
  | [], _ => by unfold wsum; simp
  | p :: W, hw => by
    have h1 := wsum_nn h fun q hq => hw q (List.mem_cons_of_mem _ hq)
    have h2 := WR_lo h (hw p List.mem_cons_self)
    rw [wsum_cons, List.length_cons]
    omega
/-- T(left) is the sum over the rods -/
theorem fit_congr {R : Rods} {k : Int} {f g : Int × Int → Int} (h : ∀ p ∈ R, p.1 ≤ k → f p = g p) : fit R k f = fit R k g := by
  unfold fit
  refine fmap_congr R fun p hp => ?_
  by_cases c : p.1 ≤ k
  · rw [if_pos c, if_pos c, h p hp c]
  · rw [if_neg c, if_neg c]
theorem cl_rec {R : Rods} (h : V R) {n : Nat} {k : Int} (h0 : 1 ≤ k) (hk : k ≤ n) : atZ (cl R n) k = (fit R k fun q => q.2 * atZ (cl R n) (k - q.1)).sum := by
  obtain ⟨j, rfl⟩ : ∃ j : Nat, k = ((j + 1 : Nat) : Int) := ⟨(k - 1).toNat, by omega⟩
  rw [cl_at R (m := j + 1) (by omega) (by omega) (by omega)]
  have e2 : atZ (cl R (j + 1)) ((j + 1 : Nat) : Int) = stepC R (cl R j) (j + 1) := by
    rw [cl_succ]
    have := atZ_last (xs := cl R j) (y := stepC R (cl R j) (j + 1))
    rw [cl_len] at this
    exact this
  rw [e2]
  unfold stepC
  congr 1
  refine fit_congr fun p hp c => ?_
  have := (h.lo p hp).1
  rw [cl_at R (n := n) (m := j) (by omega) (i := ((j + 1 : Nat) : Int) - p.1) (by omega) (by omega)]
  rfl
theorem sum_nonneg {xs : List Int} (h : ∀ x ∈ xs, 0 ≤ x) : 0 ≤ xs.sum := by
  induction xs with
  | nil => simp
  | cons x xs ih => rw [List.sum_cons]; have := h x List.mem_cons_self; have := ih fun y hy => h y (List.mem_cons_of_mem _ hy); omega
/-- the sum over rods, cut at one of them -/
theorem ahead_le {R : Rods} (h : V R) {cs : List Int} {left : Int} (nn : ∀ i, 0 ≤ i → i ≤ left → 0 ≤ atZ cs i) {r k r' : Int} (hr : (r, k) ∈ R) (lr : r ≤ left) (rr : r < r') : ahead R cs left r + k * atZ cs (left - r) ≤ ahead R cs left r' := by
  have main : ∀ (S : Rods), S.Pairwise (·.1 < ·.1) → (∀ p ∈ S, 1 ≤ p.1 ∧ 1 ≤ p.2) → ((r, k) ∈ S → (S.filterMap (aheadT cs left r)).sum + k * atZ cs (left - r) ≤ (S.filterMap (aheadT cs left r')).sum) ∧
      (S.filterMap (aheadT cs left r)).sum ≤ (S.filterMap (aheadT cs left r')).sum := fun S => by
    induction S with
    | nil => intro _ _; exact ⟨fun z => by simp at z, by simp⟩
    | cons q S ih =>
      intro hs lo
      rw [List.pairwise_cons] at hs
      obtain ⟨i1, i2⟩ := ih hs.2 fun p hp => lo p (List.mem_cons_of_mem _ hp)
      have lq := lo q List.mem_cons_self
      by_cases c1 : q.1 < r ∧ q.1 ≤ left
      · have c2 : q.1 < r' ∧ q.1 ≤ left := ⟨by omega, c1.2⟩
        rw [List.filterMap_cons_some (show aheadT cs left r q = some _ from if_pos c1), List.filterMap_cons_some (show aheadT cs left r' q = some _ from if_pos c2), List.sum_cons, List.sum_cons]
        refine ⟨fun z => ?_, by omega⟩
        have z' : (r, k) ∈ S := by
          rcases List.mem_cons.mp z with e | z
          · rw [← e] at c1; simp at c1
          · exact z
        have := i1 z'
        omega
      · rw [List.filterMap_cons_none (show aheadT cs left r q = none from if_neg c1)]
        by_cases c2 : q.1 < r' ∧ q.1 ≤ left
        · rw [List.filterMap_cons_some (show aheadT cs left r' q = some _ from if_pos c2), List.sum_cons]
          have n0 : 0 ≤ q.2 * atZ cs (left - q.1) := Int.mul_nonneg (by omega) (nn _ (by omega) (by omega))
          refine ⟨fun z => ?_, by omega⟩
          rcases List.mem_cons.mp z with e | z
          · rw [← e]
            show _ ≤ k * atZ cs (left - r) + _
            omega
          · have := i1 z
            omega
        · rw [List.filterMap_cons_none (show aheadT cs left r' q = none from if_neg c2)]
          refine ⟨fun z => ?_, i2⟩
          rcases List.mem_cons.mp z with e | z
          · exact absurd ⟨by rw [← e]; exact rr, by rw [← e]; exact lr⟩ c2
          · exact i1 z
  exact (main R h.inc fun p hp => ⟨(h.lo p hp).1, (h.lo p hp).2.2.1⟩).1 hr
theorem ahead_all {R : Rods} (h : V R) (cs : List Int) (left : Int) : ahead R cs left (left + 1) = (fit R left fun q => q.2 * atZ cs (left - q.1)).sum := by
  unfold ahead fit
  congr 1
  refine fmap_congr R fun q _ => ?_
  unfold aheadT
  by_cases c : q.1 ≤ left
  · rw [if_pos c, if_pos ⟨by omega, c⟩]
  · rw [if_neg c, if_neg fun z => c z.2]
theorem ahead_nn {R : Rods} (h : V R) {cs : List Int} {left r : Int} (nn : ∀ i, 0 ≤ i → i ≤ left → 0 ≤ atZ cs i) : 0 ≤ ahead R cs left r := by
  refine sum_nonneg fun x hx => ?_
  obtain ⟨q, hq, e⟩ := List.mem_filterMap.mp hx
  have := h.lo q hq
  unfold aheadT at e
  split at e
  · cases e; exact Int.mul_nonneg (by omega) (nn _ (by omega) (by omega))
  · cases e
/-- the place of a row of length left is under T(left) -/
theorem rk_lt {R : Rods} (h : V R) {n : Nat} : ∀ (W : Rods) (left : Int), (∀ p ∈ W, WR R p) → wsum W = left → left ≤ n → 0 ≤ rk R (cl R n) left W ∧ rk R (cl R n) left W < atZ (cl R n) left
  | [], left, _, hs, hn => by
    have : left = 0 := by rw [← hs]; rfl
    subst this
    have e : atZ (cl R n) 0 = 1 := by rw [cl_at R (m := 0) (by omega) (by omega) (by omega)]; rfl
    rw [e]; exact ⟨show (0 : Int) ≤ 0 by decide, show (0 : Int) < 1 by decide⟩
  | p :: W, left, hw, hs, hn => by
    have hw' : ∀ q ∈ W, WR R q := fun q hq => hw q (List.mem_cons_of_mem _ hq)
    have lo := WR_lo h (hw p List.mem_cons_self)
    have nnW := (wsum_nn h hw').1
    rw [wsum_cons] at hs
    obtain ⟨a, b⟩ := rk_lt h (n := n) W (left - p.1) hw' (by omega) (by omega)
    have nn : ∀ i, 0 ≤ i → i ≤ left → 0 ≤ atZ (cl R n) i := fun i i0 i1 => (cl_bound h n i i0 (by omega)).1
    obtain ⟨k, h1, h2, h3⟩ := hw p List.mem_cons_self
    have m1 := ahead_le h nn h1 (show p.1 ≤ left by omega) (show p.1 < left + 1 by omega)
    rw [ahead_all h, ← cl_rec h (by omega) hn] at m1
    have m2 : p.2 * atZ (cl R n) (left - p.1) + atZ (cl R n) (left - p.1) ≤ k * atZ (cl R n) (left - p.1) := by
      have : (p.2 + 1) * atZ (cl R n) (left - p.1) ≤ k * atZ (cl R n) (left - p.1) := Int.mul_le_mul_of_nonneg_right (by omega) (nn _ (by omega) (by omega))
      rw [Int.add_mul, Int.one_mul] at this
      exact this
    have m3 : 0 ≤ p.2 * atZ (cl R n) (left - p.1) := Int.mul_nonneg h2 (nn _ (by omega) (by omega))
    have m4 := ahead_nn h (r := p.1) nn
    show 0 ≤ ahead R (cl R n) left p.1 + p.2 * atZ (cl R n) (left - p.1) + rk R (cl R n) (left - p.1) W ∧ ahead R (cl R n) left p.1 + p.2 * atZ (cl R n) (left - p.1) + rk R (cl R n) (left - p.1) W < _
    omega
theorem rk_inj {R : Rods} (h : V R) {n : Nat} : ∀ (W U : Rods) (left : Int), (∀ p ∈ W, WR R p) → (∀ p ∈ U, WR R p) → wsum W = left → wsum U = left → left ≤ n → rk R (cl R n) left W = rk R (cl R n) left U → W = U
  | [], [], _, _, _, _, _, _, _ => rfl
  | [], u :: U, left, _, hu, hs, hs', _, _ => by
    have lo := WR_lo h (hu u List.mem_cons_self)
    have nn := (wsum_nn h fun q hq => hu q (List.mem_cons_of_mem _ hq)).1
    rw [wsum_cons] at hs'
    have : left = 0 := by rw [← hs]; rfl
    omega
  | p :: W, [], left, hw, _, hs, hs', _, _ => by
    have lo := WR_lo h (hw p List.mem_cons_self)
    have nn := (wsum_nn h fun q hq => hw q (List.mem_cons_of_mem _ hq)).1
    rw [wsum_cons] at hs
    have : left = 0 := by rw [← hs']; rfl
    omega
  | p :: W, u :: U, left, hw, hu, hs, hs', hn, e => by
    have hw' : ∀ q ∈ W, WR R q := fun q hq => hw q (List.mem_cons_of_mem _ hq)
    have hu' : ∀ q ∈ U, WR R q := fun q hq => hu q (List.mem_cons_of_mem _ hq)
    have lp := WR_lo h (hw p List.mem_cons_self)
    have lu := WR_lo h (hu u List.mem_cons_self)
    have nW := (wsum_nn h hw').1
    have nU := (wsum_nn h hu').1
    rw [wsum_cons] at hs hs'
    have nn : ∀ i, 0 ≤ i → i ≤ left → 0 ≤ atZ (cl R n) i := fun i i0 i1 => (cl_bound h n i i0 (by omega)).1
    obtain ⟨a, b⟩ := rk_lt h (n := n) W (left - p.1) hw' (by omega) (by omega)
    obtain ⟨a', b'⟩ := rk_lt h (n := n) U (left - u.1) hu' (by omega) (by omega)
    obtain ⟨k, h1, h2, h3⟩ := hw p List.mem_cons_self
    obtain ⟨k', h1', h2', h3'⟩ := hu u List.mem_cons_self
    have up : ∀ (x kk : Int) (r : Int), 0 ≤ x → x < kk → 0 ≤ r → r ≤ left → x * atZ (cl R n) r + atZ (cl R n) r ≤ kk * atZ (cl R n) r := fun x kk r x0 x1 r0 r1 => by
      have : (x + 1) * atZ (cl R n) r ≤ kk * atZ (cl R n) r := Int.mul_le_mul_of_nonneg_right (by omega) (nn _ r0 r1)
      rw [Int.add_mul, Int.one_mul] at this
      exact this
    have e' : ahead R (cl R n) left p.1 + p.2 * atZ (cl R n) (left - p.1) + rk R (cl R n) (left - p.1) W = ahead R (cl R n) left u.1 + u.2 * atZ (cl R n) (left - u.1) + rk R (cl R n) (left - u.1) U := e
    have u1 := up p.2 k (left - p.1) h2 h3 (by omega) (by omega)
    have u2 := up u.2 k' (left - u.1) h2' h3' (by omega) (by omega)
    have z1 : 0 ≤ p.2 * atZ (cl R n) (left - p.1) := Int.mul_nonneg h2 (nn _ (by omega) (by omega))
    have z2 : 0 ≤ u.2 * atZ (cl R n) (left - u.1) := Int.mul_nonneg h2' (nn _ (by omega) (by omega))
    have e1 : p.1 = u.1 := by
      rcases Int.lt_trichotomy p.1 u.1 with c | c | c
      · have := ahead_le h nn h1 (show p.1 ≤ left by omega) c
        omega
      · exact c
      · have := ahead_le h nn h1' (show u.1 ≤ left by omega) c
        omega
    rw [e1] at e' a b z1 u1
    have e2 : p.2 = u.2 := by
      rcases Int.lt_trichotomy p.2 u.2 with c | c | c
      · have := up p.2 u.2 (left - u.1) h2 c (by omega) (by omega)
        omega
      · exact c
      · have := up u.2 p.2 (left - u.1) h2' c (by omega) (by omega)
        omega
    rw [e2] at e'
    have e3 := rk_inj h (n := n) W U (left - u.1) hw' hu' (by omega) (by omega) (by omega) (by omega)
    rw [e3, show p = u from Prod.ext e1 e2]
end K15

namespace K15
open PySem PySem.Spec PyProof.Rows L2 DL
theorem ahead_snoc (R : Rods) (cs : List Int) (left r : Int) (q : Int × Int) : ahead (R ++ [q]) cs left r = ahead R cs left r + (if q.1 < r ∧ q.1 ≤ left then q.2 * atZ cs (left - q.1) else 0) := by
  unfold ahead
  rw [List.filterMap_append, List.sum_append]
  by_cases c : q.1 < r ∧ q.1 ≤ left
  · rw [if_pos c, List.filterMap_cons_some (show aheadT cs left r q = some _ from if_pos c)]; simp
  · rw [if_neg c, List.filterMap_cons_none (show aheadT cs left r q = none from if_neg c)]; simp
theorem rk_snoc (R : Rods) (cs : List Int) (left : Int) (W : Rods) (p : Int × Int) : rk R cs left (W ++ [p]) = rk R cs left W + ahead R cs (left - wsum W) p.1 + p.2 * atZ cs (left - wsum W - p.1) := by
  rw [rk_app]
  show _ + (ahead R cs (left - wsum W) p.1 + p.2 * atZ cs (left - wsum W - p.1) + 0) = _
  omega
theorem wsum_snoc (W : Rods) (p : Int × Int) : wsum (W ++ [p]) = wsum W + p.1 := by rw [wsum_app]; unfold wsum; simp
theorem pre_le {R : Rods} (h : V R) {W p q : Rods} {x : Int × Int} (hw : ∀ y ∈ W, WR R y) (e : W = p ++ x :: q) : 0 ≤ wsum p ∧ wsum p + x.1 ≤ wsum W := by
  have h1 := (wsum_nn h (W := p) fun y hy => hw y (by rw [e]; simp [hy])).1
  have h2 := (wsum_nn h (W := q) fun y hy => hw y (by rw [e]; simp [hy])).1
  rw [e, wsum_app, wsum_cons]
  omega
theorem v_rank {R : Rods} (h : V R) {n : Nat} (hn : n ≤ 299) {W : Rods} (hw : ∀ p ∈ W, WR R p) (hs : wsum W = n) : F_rank [dR R, dW W] = some (.int (rk R (cl R n) n W)) := by
  have wl := (wsum_nn h hw).2
  have hl : W.length ≤ 10000 := by omega
  refine runV_wp ?_
  show Wp _ [some (.p (dR R)), some (.p (dW W)), none, none, none, none, none, none, none, none, none] _
  refine wp_seq (wp_drop (e_fn (m_p (ev_p rfl) m_nil) rfl (v_check_rods h)) ?_)
  show Wp _ [some (.p (dR R)), some (.p (dW W)), none, none, none, none, none, none, none, none, none] _
  have lc := lc_isrod h W hl (i := 1) (j := 2) (δ := [some (.p (dR R)), some (.p (dW W)), none, none, none, none, none, none, none, none, none]) rfl (fun _ => rfl) (fun _ => rfl) rfl (fun _ => rfl) rfl rfl rfl
  have al := all_bls (W.map (isRod R))
  have e2 : (W.map (isRod R)).all id = true := by
    rw [List.all_map, List.all_eq_true]
    intro p hp
    exact isRod_of (hw p hp)
  rw [e2] at al
  refine wp_seq (wp_f (b_or_f (b_not (b_e (e_call (a_nm rfl (a_val rfl a_nil)) rfl (gisi_t _)))) (b_not (b_e (e_call (a_val (e_own lc) a_nil) rfl al)))) (wp_next ?_))
  have lf := lc_fst W hl (i := 1) (j := 2) (δ := [some (.p (dR R)), some (.p (dW W)), none, none, none, none, none, none, none, none, none]) rfl (fun _ => rfl) rfl (fun _ => rfl) rfl rfl rfl
  have es := e_sum lf
  rw [show (W.map (·.1)).sum = (n : Int) from hs] at es
  refine wp_seq (wp_set es rfl rfl ?_)
  show Wp _ [some (.p (dR R)), some (.p (dW W)), none, some (.p (.int n)), none, none, none, none, none, none, none] _
  refine wp_seq (wp_par rfl (m_p (e_fn (m_p (ev_p rfl) (m_p (ev_p rfl) m_nil)) rfl (v_counts h hn)) (m_p rfl (m_p (ev_p rfl) m_nil))) rfl ?_)
  show Wp _ [some (.p (dR R)), some (.p (dW W)), none, some (.p (.int n)), some (.p (.tup (iD (cl R n)))), some (.p (.int 0)), some (.p (.int n)), none, none, none, none] _
  refine wp_seq (wp_for tupI (fun pre δ => ∃ a b c d : Option D, δ = [some (.p (dR R)), some (.p (dW W)), none, some (.p (.int n)), some (.p (.tup (iD (cl R n)))), some (.p (.int (rk R (cl R n) n pre))), some (.p (.int (n - wsum pre))), a.map .p, b.map .p, c.map .p, d.map .p]) W (by unfold iSeq; rw [ev_p rfl]; rfl) ⟨none, none, none, none, by simp [rk, wsum]⟩ ?_ ?_)
  · rintro p x q δ e ⟨a, b, c, d, rfl⟩
    have lx := WR_lo h (hw x (by rw [e]; simp))
    have pl := pre_le h hw e
    refine ⟨[some (.p (dR R)), some (.p (dW W)), none, some (.p (.int n)), some (.p (.tup (iD (cl R n)))), some (.p (.int (rk R (cl R n) n p))), some (.p (.int (n - wsum p))), some (.p (.int x.1)), some (.p (.int x.2)), c.map .p, d.map .p], by cases a <;> cases b <;> simp [sSeq, sDrop, sIf, sRet, sRetO, sRetN, sSet, sSetO, sPar, sApp, sPut, sAug, sNext, sBreak, eFn, oFn, eRef, eArgs, eArgs.dsOf, mP, mO, mNil, eVar, eC, eOp, oOp, eCall, oCall, eOwn, hVal, hName, Hd.d, slotD, aCons, aNil, hds, vals, oLst, eTup, eIf, eAnd, eOr, eNot, eNeg, gNeg, eIsN, eChain, bE, bAnd, bOr, bNot, bYes, eSl, oSl, pSo, pNo, iSeq, iRange, iEnumD, iZipD, Ct.d, Sl.d, ownC, putC, isBor, setN, runV, runR, runO, env0, headB, txN, txT, txsCons, txsNil, List.map, List.length, List.replicate, List.append, addI, subI, leI, ltI, gtI, geI, eqI, neI, g1, lenL, lenT, intI, tupI], ?_⟩
    refine wp_seq (wp_for tupI (fun pre δ => ∃ c d : Option D, δ = [some (.p (dR R)), some (.p (dW W)), none, some (.p (.int n)), some (.p (.tup (iD (cl R n)))), some (.p (.int (rk R (cl R n) n p + ahead pre (cl R n) (n - wsum p) x.1))), some (.p (.int (n - wsum p))), some (.p (.int x.1)), some (.p (.int x.2)), c.map .p, d.map .p]) R (by unfold iSeq; rw [ev_p rfl]; rfl) ⟨c, d, by simp [ahead]⟩ ?_ ?_)
    · rintro p' y q' δ e' ⟨c, d, rfl⟩
      have ly := h.lo y (by rw [e']; simp)
      refine ⟨[some (.p (dR R)), some (.p (dW W)), none, some (.p (.int n)), some (.p (.tup (iD (cl R n)))), some (.p (.int (rk R (cl R n) n p + ahead p' (cl R n) (n - wsum p) x.1))), some (.p (.int (n - wsum p))), some (.p (.int x.1)), some (.p (.int x.2)), some (.p (.int y.1)), some (.p (.int y.2))], by cases c <;> cases d <;> simp [sSeq, sDrop, sIf, sRet, sRetO, sRetN, sSet, sSetO, sPar, sApp, sPut, sAug, sNext, sBreak, eFn, oFn, eRef, eArgs, eArgs.dsOf, mP, mO, mNil, eVar, eC, eOp, oOp, eCall, oCall, eOwn, hVal, hName, Hd.d, slotD, aCons, aNil, hds, vals, oLst, eTup, eIf, eAnd, eOr, eNot, eNeg, gNeg, eIsN, eChain, bE, bAnd, bOr, bNot, bYes, eSl, oSl, pSo, pNo, iSeq, iRange, iEnumD, iZipD, Ct.d, Sl.d, ownC, putC, isBor, setN, runV, runR, runO, env0, headB, txN, txT, txsCons, txsNil, List.map, List.length, List.replicate, List.append, addI, subI, leI, ltI, gtI, geI, eqI, neI, g1, lenL, lenT, intI, tupI], ?_⟩
      by_cases cc : y.1 < x.1 ∧ y.1 ≤ n - wsum p
      · obtain ⟨y1, y2, _⟩ := atZ_cl h hn (i := n - wsum p - y.1) (by omega) (by omega)
        have m2 := mulI (a := y.2) (small_le (k := 12) (by omega) (by omega) (by decide)) y2
        refine wp_t (δ1 := [some (.p (dR R)), some (.p (dW W)), none, some (.p (.int n)), some (.p (.tup (iD (cl R n)))), some (.p (.int (rk R (cl R n) n p + ahead p' (cl R n) (n - wsum p) x.1))), some (.p (.int (n - wsum p))), some (.p (.int x.1)), some (.p (.int x.2)), some (.p (.int y.1)), some (.p (.int y.2))]) (by simp [sSeq, sDrop, sIf, sRet, sRetO, sRetN, sSet, sSetO, sPar, sApp, sPut, sAug, sNext, sBreak, eFn, oFn, eRef, eArgs, eArgs.dsOf, mP, mO, mNil, eVar, eC, eOp, oOp, eCall, oCall, eOwn, hVal, hName, Hd.d, slotD, aCons, aNil, hds, vals, oLst, eTup, eIf, eAnd, eOr, eNot, eNeg, gNeg, eIsN, eChain, bE, bAnd, bOr, bNot, bYes, eSl, oSl, pSo, pNo, iSeq, iRange, iEnumD, iZipD, Ct.d, Sl.d, ownC, putC, isBor, setN, runV, runR, runO, env0, headB, txN, txT, txsCons, txsNil, List.map, List.length, List.replicate, List.append, addI, subI, leI, ltI, gtI, geI, eqI, neI, g1, lenL, lenT, intI, cc]) (wp_aug rfl (e_op rfl (h_val (e_op rfl (h_val (e_op rfl rfl rfl rfl (subI _ _))) rfl rfl y1)) rfl rfl m2) rfl ⟨_, .inl rfl, some (.int y.1), some (.int y.2), ?_⟩)
        rw [ahead_snoc, if_pos cc, Int.add_assoc]; rfl
      · refine wp_f (δ1 := [some (.p (dR R)), some (.p (dW W)), none, some (.p (.int n)), some (.p (.tup (iD (cl R n)))), some (.p (.int (rk R (cl R n) n p + ahead p' (cl R n) (n - wsum p) x.1))), some (.p (.int (n - wsum p))), some (.p (.int x.1)), some (.p (.int x.2)), some (.p (.int y.1)), some (.p (.int y.2))]) ?_ (wp_next ⟨_, .inl rfl, some (.int y.1), some (.int y.2), ?_⟩)
        · by_cases c1 : y.1 < x.1
          · have c2 : ¬ y.1 ≤ n - wsum p := fun z => cc ⟨c1, z⟩
            simp [sSeq, sDrop, sIf, sRet, sRetO, sRetN, sSet, sSetO, sPar, sApp, sPut, sAug, sNext, sBreak, eFn, oFn, eRef, eArgs, eArgs.dsOf, mP, mO, mNil, eVar, eC, eOp, oOp, eCall, oCall, eOwn, hVal, hName, Hd.d, slotD, aCons, aNil, hds, vals, oLst, eTup, eIf, eAnd, eOr, eNot, eNeg, gNeg, eIsN, eChain, bE, bAnd, bOr, bNot, bYes, eSl, oSl, pSo, pNo, iSeq, iRange, iEnumD, iZipD, Ct.d, Sl.d, ownC, putC, isBor, setN, runV, runR, runO, env0, headB, txN, txT, txsCons, txsNil, List.map, List.length, List.replicate, List.append, addI, subI, leI, ltI, gtI, geI, eqI, neI, g1, lenL, lenT, intI, c1, c2]
          · simp [sSeq, sDrop, sIf, sRet, sRetO, sRetN, sSet, sSetO, sPar, sApp, sPut, sAug, sNext, sBreak, eFn, oFn, eRef, eArgs, eArgs.dsOf, mP, mO, mNil, eVar, eC, eOp, oOp, eCall, oCall, eOwn, hVal, hName, Hd.d, slotD, aCons, aNil, hds, vals, oLst, eTup, eIf, eAnd, eOr, eNot, eNeg, gNeg, eIsN, eChain, bE, bAnd, bOr, bNot, bYes, eSl, oSl, pSo, pNo, iSeq, iRange, iEnumD, iZipD, Ct.d, Sl.d, ownC, putC, isBor, setN, runV, runR, runO, env0, headB, txN, txT, txsCons, txsNil, List.map, List.length, List.replicate, List.append, addI, subI, leI, ltI, gtI, geI, eqI, neI, g1, lenL, lenT, intI, c1]
        · rw [ahead_snoc, if_neg cc, Int.add_zero]; rfl
    · rintro δ' ⟨c, d, rfl⟩
      obtain ⟨y1, y2, _⟩ := atZ_cl h hn (i := n - wsum p - x.1) (by omega) (by omega)
      have m2 := mulI (a := x.2) (small_le (k := 12) (by omega) (by omega) (by decide)) y2
      refine wp_seq (wp_aug rfl (e_op rfl (h_val (e_op rfl (h_val (e_op rfl rfl rfl rfl (subI _ _))) rfl rfl y1)) rfl rfl m2) rfl ?_)
      refine wp_aug rfl (ev_p rfl) rfl ⟨_, .inl rfl, some (.int x.1), some (.int x.2), c, d, ?_⟩
      rw [rk_snoc, wsum_snoc, show (n : Int) - (wsum p + x.1) = n - wsum p - x.1 by omega]; rfl
  · rintro δ' ⟨a, b, c, d, rfl⟩
    exact wp_ret (ev_p rfl) (.inl ⟨_, rfl⟩)

/-! ### the law's places -/
def lawT (cs : List Int) (left r c : Int) (q : Int × Int) : Int := if q.1 ≤ left then (if q.1 < r then q.2 else if q.1 = r then c else 0) * atZ cs (left - q.1) else 0
theorem law_sum {R : Rods} (h : V R) (cs : List Int) {left r k : Int} (c : Int) (hr : (r, k) ∈ R) (lr : r ≤ left) : (R.map (lawT cs left r c)).sum = ahead R cs left r + c * atZ cs (left - r) := by
  have main : ∀ (S : Rods), S.Pairwise (·.1 < ·.1) → ((r, k) ∈ S → (S.map (lawT cs left r c)).sum = ahead S cs left r + c * atZ cs (left - r)) ∧ ((∀ q ∈ S, r < q.1) → (S.map (lawT cs left r c)).sum = 0 ∧ ahead S cs left r = 0) := fun S => by
    induction S with
    | nil => intro _; exact ⟨fun z => by simp at z, fun _ => ⟨rfl, rfl⟩⟩
    | cons q S ih =>
      intro hs
      rw [List.pairwise_cons] at hs
      obtain ⟨i1, i2⟩ := ih hs.2
      refine ⟨fun z => ?_, fun z => ?_⟩
      · rw [List.map_cons, List.sum_cons]
        rcases List.mem_cons.mp z with e | z
        · obtain ⟨j1, j2⟩ := i2 fun y hy => by have := hs.1 y hy; rw [← e] at this; exact this
          have a0 : ahead (q :: S) cs left r = ahead S cs left r := by
            unfold ahead
            rw [List.filterMap_cons_none (show aheadT cs left r q = none from if_neg fun z => by rw [← e] at z; exact absurd z.1 (Int.lt_irrefl _))]
          rw [a0, j1, j2, ← e]
          unfold lawT
          rw [if_pos lr, if_neg (Int.lt_irrefl _), if_pos rfl]
          show c * atZ cs (left - r) + 0 = 0 + c * atZ cs (left - r)
          omega
        · have lt := hs.1 _ z
          have lt : q.1 < r := lt
          have a0 : ahead (q :: S) cs left r = q.2 * atZ cs (left - q.1) + ahead S cs left r := by
            unfold ahead
            rw [List.filterMap_cons_some (show aheadT cs left r q = some _ from if_pos ⟨lt, by omega⟩), List.sum_cons]
          rw [a0, i1 z]
          have : lawT cs left r c q = q.2 * atZ cs (left - q.1) := by unfold lawT; rw [if_pos (by omega), if_pos lt]
          rw [this]
          omega
      · rw [List.map_cons, List.sum_cons]
        obtain ⟨j1, j2⟩ := i2 fun y hy => z y (List.mem_cons_of_mem _ hy)
        have lt := z q List.mem_cons_self
        have a0 : ahead (q :: S) cs left r = ahead S cs left r := by
          unfold ahead
          rw [List.filterMap_cons_none (show aheadT cs left r q = none from if_neg fun z => by omega)]
        have t0 : lawT cs left r c q = 0 := by
          unfold lawT
          rw [if_neg (show ¬ q.1 < r by omega), if_neg (show ¬ q.1 = r by omega), Int.zero_mul]
          split <;> rfl
        rw [a0, j1, j2, t0]; exact ⟨rfl, rfl⟩
  exact (main R h.inc).1 hr
theorem v__law_rank {R : Rods} (h : V R) {n : Nat} (hn : n ≤ 299) {W : Rods} (hw : ∀ p ∈ W, WR R p) {s : Int} (hs : wsum W = s) (hsn : s ≤ n) : F__law_rank [dR R, .lst (iD (cl R n)), dW W] = some (.int (rk R (cl R n) s W)) := by
  have wl := wsum_nn h hw
  refine runV_wp ?_
  show Wp _ [some (.p (dR R)), some (.p (.lst (iD (cl R n)))), some (.p (dW W)), none, none, none, none, none, none, none] _
  have lf : oLc (iSeq (eVar 2)) (txT 2 (txsCons (txN 5) (txsCons (txN 6) txsNil))) bYes (eVar 5) [5, 6] [some (.p (dR R)), some (.p (.lst (iD (cl R n)))), some (.p (dW W)), none, none, none, none, none, none, none] = some (.lst (iD (W.map (·.1))), [some (.p (dR R)), some (.p (.lst (iD (cl R n)))), some (.p (dW W)), none, none, none, none, none, none, none]) := by
    rw [iD_map, ← fmap_some (fun p : Int × Int => D.int p.1)]
    exact oLc_pure tupI _ W rfl rfl rfl rfl (fun p hp => ⟨[some (.p (dR R)), some (.p (.lst (iD (cl R n)))), some (.p (dW W)), none, none, some (.p (.int p.1)), some (.p (.int p.2)), none, none, none], by simp [sSeq, sDrop, sIf, sRet, sRetO, sRetN, sSet, sSetO, sPar, sApp, sPut, sAug, sNext, sBreak, eFn, oFn, eRef, eArgs, eArgs.dsOf, mP, mO, mNil, eVar, eC, eOp, oOp, eCall, oCall, eOwn, hVal, hName, Hd.d, slotD, aCons, aNil, hds, vals, oLst, eTup, eIf, eAnd, eOr, eNot, eNeg, gNeg, eIsN, eChain, bE, bAnd, bOr, bNot, bYes, eSl, oSl, pSo, pNo, iSeq, iRange, iEnumD, iZipD, Ct.d, Sl.d, ownC, putC, isBor, setN, runV, runR, runO, env0, headB, txN, txT, txsCons, txsNil, List.map, List.length, List.replicate, List.append, addI, subI, leI, ltI, gtI, geI, eqI, neI, g1, lenL, lenT, intI, tupI], .inr ⟨_, _, _, rfl, rfl, ev_p rfl, rfl⟩⟩) (by simp [lim]; omega)
  have es := e_sum lf
  rw [show (W.map (·.1)).sum = s from hs] at es
  refine wp_seq (wp_par rfl (m_p es (m_p rfl m_nil)) rfl ?_)
  show Wp _ [some (.p (dR R)), some (.p (.lst (iD (cl R n)))), some (.p (dW W)), some (.p (.int s)), some (.p (.int 0)), none, none, none, none, none] _
  refine wp_seq (wp_for tupI (fun pre δ => ∃ a b c d e : Option D, δ = [some (.p (dR R)), some (.p (.lst (iD (cl R n)))), some (.p (dW W)), some (.p (.int (s - wsum pre))), some (.p (.int (rk R (cl R n) s pre))), a.map .p, b.map .p, c.map .p, d.map .p, e.map .p]) W (by unfold iSeq; rw [ev_p rfl]; rfl) ⟨none, none, none, none, none, by simp [rk, wsum]⟩ ?_ ?_)
  · rintro p x q δ e ⟨a, b, c, d, e5, rfl⟩
    have wx := hw x (by rw [e]; simp)
    have lx := WR_lo h wx
    have pl := pre_le h hw e
    refine ⟨[some (.p (dR R)), some (.p (.lst (iD (cl R n)))), some (.p (dW W)), some (.p (.int (s - wsum p))), some (.p (.int (rk R (cl R n) s p))), some (.p (.int x.1)), some (.p (.int x.2)), c.map .p, d.map .p, e5.map .p], by cases a <;> cases b <;> simp [sSeq, sDrop, sIf, sRet, sRetO, sRetN, sSet, sSetO, sPar, sApp, sPut, sAug, sNext, sBreak, eFn, oFn, eRef, eArgs, eArgs.dsOf, mP, mO, mNil, eVar, eC, eOp, oOp, eCall, oCall, eOwn, hVal, hName, Hd.d, slotD, aCons, aNil, hds, vals, oLst, eTup, eIf, eAnd, eOr, eNot, eNeg, gNeg, eIsN, eChain, bE, bAnd, bOr, bNot, bYes, eSl, oSl, pSo, pNo, iSeq, iRange, iEnumD, iZipD, Ct.d, Sl.d, ownC, putC, isBor, setN, runV, runR, runO, env0, headB, txN, txT, txsCons, txsNil, List.map, List.length, List.replicate, List.append, addI, subI, leI, ltI, gtI, geI, eqI, neI, g1, lenL, lenT, intI, tupI], ?_⟩
    refine wp_seq (wp_for tupI (fun pre δ => ∃ c d e : Option D, δ = [some (.p (dR R)), some (.p (.lst (iD (cl R n)))), some (.p (dW W)), some (.p (.int (s - wsum p))), some (.p (.int (rk R (cl R n) s p + (pre.map (lawT (cl R n) (s - wsum p) x.1 x.2)).sum))), some (.p (.int x.1)), some (.p (.int x.2)), c.map .p, d.map .p, e.map .p]) R (by unfold iSeq; rw [ev_p rfl]; rfl) ⟨c, d, e5, by simp⟩ ?_ ?_)
    · rintro p' y q' δ e' ⟨c, d, e5, rfl⟩
      have ly := h.lo y (by rw [e']; simp)
      refine ⟨[some (.p (dR R)), some (.p (.lst (iD (cl R n)))), some (.p (dW W)), some (.p (.int (s - wsum p))), some (.p (.int (rk R (cl R n) s p + (p'.map (lawT (cl R n) (s - wsum p) x.1 x.2)).sum))), some (.p (.int x.1)), some (.p (.int x.2)), some (.p (.int y.1)), some (.p (.int y.2)), e5.map .p], by cases c <;> cases d <;> simp [sSeq, sDrop, sIf, sRet, sRetO, sRetN, sSet, sSetO, sPar, sApp, sPut, sAug, sNext, sBreak, eFn, oFn, eRef, eArgs, eArgs.dsOf, mP, mO, mNil, eVar, eC, eOp, oOp, eCall, oCall, eOwn, hVal, hName, Hd.d, slotD, aCons, aNil, hds, vals, oLst, eTup, eIf, eAnd, eOr, eNot, eNeg, gNeg, eIsN, eChain, bE, bAnd, bOr, bNot, bYes, eSl, oSl, pSo, pNo, iSeq, iRange, iEnumD, iZipD, Ct.d, Sl.d, ownC, putC, isBor, setN, runV, runR, runO, env0, headB, txN, txT, txsCons, txsNil, List.map, List.length, List.replicate, List.append, addI, subI, leI, ltI, gtI, geI, eqI, neI, g1, lenL, lenT, intI, tupI], ?_⟩
      have fin : ((p' ++ [y]).map (lawT (cl R n) (s - wsum p) x.1 x.2)).sum = (p'.map (lawT (cl R n) (s - wsum p) x.1 x.2)).sum + lawT (cl R n) (s - wsum p) x.1 x.2 y := by rw [List.map_append, List.sum_append]; simp
      by_cases cc : y.1 ≤ s - wsum p
      · have y1 := atZ_row h hn (i := s - wsum p - y.1) (by omega) (by omega)
        obtain ⟨_, y2, _⟩ := atZ_cl h hn (i := s - wsum p - y.1) (by omega) (by omega)
        generalize hv : (if y.1 < x.1 then y.2 else if y.1 = x.1 then x.2 else 0) = v
        have vb : 0 ≤ v ∧ v ≤ 9 := by
          rw [← hv]
          split
          · omega
          · split <;> omega
        have m2 := mulI (a := v) (small_le (k := 12) vb.1 (by omega) (by decide)) y2
        have st : (eIf (bE (eOp gLt (hName 7) (hName 5))) (eVar 8) (eIf (bE (eOp gEq (hName 7) (hName 5))) (eVar 6) (eC (.int 0)))) [some (.p (dR R)), some (.p (.lst (iD (cl R n)))), some (.p (dW W)), some (.p (.int (s - wsum p))), some (.p (.int (rk R (cl R n) s p + (p'.map (lawT (cl R n) (s - wsum p) x.1 x.2)).sum))), some (.p (.int x.1)), some (.p (.int x.2)), some (.p (.int y.1)), some (.p (.int y.2)), e5.map .p] = some (.int v, [some (.p (dR R)), some (.p (.lst (iD (cl R n)))), some (.p (dW W)), some (.p (.int (s - wsum p))), some (.p (.int (rk R (cl R n) s p + (p'.map (lawT (cl R n) (s - wsum p) x.1 x.2)).sum))), some (.p (.int x.1)), some (.p (.int x.2)), some (.p (.int y.1)), some (.p (.int y.2)), e5.map .p]) := by
          rw [← hv]
          by_cases d1 : y.1 < x.1
          · simp [sSeq, sDrop, sIf, sRet, sRetO, sRetN, sSet, sSetO, sPar, sApp, sPut, sAug, sNext, sBreak, eFn, oFn, eRef, eArgs, eArgs.dsOf, mP, mO, mNil, eVar, eC, eOp, oOp, eCall, oCall, eOwn, hVal, hName, Hd.d, slotD, aCons, aNil, hds, vals, oLst, eTup, eIf, eAnd, eOr, eNot, eNeg, gNeg, eIsN, eChain, bE, bAnd, bOr, bNot, bYes, eSl, oSl, pSo, pNo, iSeq, iRange, iEnumD, iZipD, Ct.d, Sl.d, ownC, putC, isBor, setN, runV, runR, runO, env0, headB, txN, txT, txsCons, txsNil, List.map, List.length, List.replicate, List.append, addI, subI, leI, ltI, gtI, geI, eqI, neI, g1, lenL, lenT, intI, d1]
          · by_cases d2 : y.1 = x.1
            · simp [sSeq, sDrop, sIf, sRet, sRetO, sRetN, sSet, sSetO, sPar, sApp, sPut, sAug, sNext, sBreak, eFn, oFn, eRef, eArgs, eArgs.dsOf, mP, mO, mNil, eVar, eC, eOp, oOp, eCall, oCall, eOwn, hVal, hName, Hd.d, slotD, aCons, aNil, hds, vals, oLst, eTup, eIf, eAnd, eOr, eNot, eNeg, gNeg, eIsN, eChain, bE, bAnd, bOr, bNot, bYes, eSl, oSl, pSo, pNo, iSeq, iRange, iEnumD, iZipD, Ct.d, Sl.d, ownC, putC, isBor, setN, runV, runR, runO, env0, headB, txN, txT, txsCons, txsNil, List.map, List.length, List.replicate, List.append, addI, subI, leI, ltI, gtI, geI, eqI, neI, g1, lenL, lenT, intI, d2]
            · simp [sSeq, sDrop, sIf, sRet, sRetO, sRetN, sSet, sSetO, sPar, sApp, sPut, sAug, sNext, sBreak, eFn, oFn, eRef, eArgs, eArgs.dsOf, mP, mO, mNil, eVar, eC, eOp, oOp, eCall, oCall, eOwn, hVal, hName, Hd.d, slotD, aCons, aNil, hds, vals, oLst, eTup, eIf, eAnd, eOr, eNot, eNeg, gNeg, eIsN, eChain, bE, bAnd, bOr, bNot, bYes, eSl, oSl, pSo, pNo, iSeq, iRange, iEnumD, iZipD, Ct.d, Sl.d, ownC, putC, isBor, setN, runV, runR, runO, env0, headB, txN, txT, txsCons, txsNil, List.map, List.length, List.replicate, List.append, addI, subI, leI, ltI, gtI, geI, eqI, neI, g1, lenL, lenT, intI, d1, d2]
        refine wp_t (δ1 := [some (.p (dR R)), some (.p (.lst (iD (cl R n)))), some (.p (dW W)), some (.p (.int (s - wsum p))), some (.p (.int (rk R (cl R n) s p + (p'.map (lawT (cl R n) (s - wsum p) x.1 x.2)).sum))), some (.p (.int x.1)), some (.p (.int x.2)), some (.p (.int y.1)), some (.p (.int y.2)), e5.map .p]) (by simp [sSeq, sDrop, sIf, sRet, sRetO, sRetN, sSet, sSetO, sPar, sApp, sPut, sAug, sNext, sBreak, eFn, oFn, eRef, eArgs, eArgs.dsOf, mP, mO, mNil, eVar, eC, eOp, oOp, eCall, oCall, eOwn, hVal, hName, Hd.d, slotD, aCons, aNil, hds, vals, oLst, eTup, eIf, eAnd, eOr, eNot, eNeg, gNeg, eIsN, eChain, bE, bAnd, bOr, bNot, bYes, eSl, oSl, pSo, pNo, iSeq, iRange, iEnumD, iZipD, Ct.d, Sl.d, ownC, putC, isBor, setN, runV, runR, runO, env0, headB, txN, txT, txsCons, txsNil, List.map, List.length, List.replicate, List.append, addI, subI, leI, ltI, gtI, geI, eqI, neI, g1, lenL, lenT, intI, cc]) (wp_seq (wp_set st (by cases e5 <;> rfl) (by cases e5 <;> rfl) ?_))
        refine wp_set (e_op rfl (h_val (e_op rfl (h_val (e_op rfl (h_val (e_op rfl rfl rfl rfl (subI _ _))) rfl rfl y1)) rfl rfl m2)) rfl rfl (addI _ _)) rfl rfl ⟨_, .inl rfl, some (.int y.1), some (.int y.2), some (.int v), ?_⟩
        rw [fin, ← Int.add_assoc]
        have : lawT (cl R n) (s - wsum p) x.1 x.2 y = v * atZ (cl R n) (s - wsum p - y.1) := by unfold lawT; rw [if_pos cc, hv]
        rw [this]; rfl
      · refine wp_f (δ1 := [some (.p (dR R)), some (.p (.lst (iD (cl R n)))), some (.p (dW W)), some (.p (.int (s - wsum p))), some (.p (.int (rk R (cl R n) s p + (p'.map (lawT (cl R n) (s - wsum p) x.1 x.2)).sum))), some (.p (.int x.1)), some (.p (.int x.2)), some (.p (.int y.1)), some (.p (.int y.2)), e5.map .p]) (by simp [sSeq, sDrop, sIf, sRet, sRetO, sRetN, sSet, sSetO, sPar, sApp, sPut, sAug, sNext, sBreak, eFn, oFn, eRef, eArgs, eArgs.dsOf, mP, mO, mNil, eVar, eC, eOp, oOp, eCall, oCall, eOwn, hVal, hName, Hd.d, slotD, aCons, aNil, hds, vals, oLst, eTup, eIf, eAnd, eOr, eNot, eNeg, gNeg, eIsN, eChain, bE, bAnd, bOr, bNot, bYes, eSl, oSl, pSo, pNo, iSeq, iRange, iEnumD, iZipD, Ct.d, Sl.d, ownC, putC, isBor, setN, runV, runR, runO, env0, headB, txN, txT, txsCons, txsNil, List.map, List.length, List.replicate, List.append, addI, subI, leI, ltI, gtI, geI, eqI, neI, g1, lenL, lenT, intI, cc]) (wp_next ⟨_, .inl rfl, some (.int y.1), some (.int y.2), e5, ?_⟩)
        have : lawT (cl R n) (s - wsum p) x.1 x.2 y = 0 := by unfold lawT; rw [if_neg cc]
        rw [fin, this, Int.add_zero]; rfl
    · rintro δ' ⟨c, d, e5, rfl⟩
      refine wp_set (e_op rfl rfl rfl rfl (subI _ _)) rfl rfl ⟨_, .inl rfl, some (.int x.1), some (.int x.2), c, d, e5, ?_⟩
      obtain ⟨k, hk, _⟩ := wx
      rw [rk_snoc, wsum_snoc, law_sum h (cl R n) x.2 hk (show x.1 ≤ s - wsum p by omega), show s - (wsum p + x.1) = s - wsum p - x.1 by omega, ← Int.add_assoc]; rfl
  · rintro δ' ⟨a, b, c, d, e, rfl⟩
    exact wp_ret (ev_p rfl) (.inl ⟨_, rfl⟩)
end K15

namespace K15
open PySem PySem.Spec PyProof.Rows L2 DL
/-- for with a break: P while it goes on, B where it broke off -/
theorem loopS_brk {α : Type} {tx : TX} {body : SX} (g : α → D) (P : List α → DEnv → Prop) (B : DEnv → Prop) : ∀ (xs pre : List α) (δ : DEnv), P pre δ →
    (∀ p x q δ, pre ++ xs = p ++ x :: q → P p δ → ∃ δ2, tx (g x) δ = some δ2 ∧ Wp body δ2 fun f => (∃ δ3, f = .nx δ3 ∧ P (p ++ [x]) δ3) ∨ ∃ δ3, f = .bk δ3 ∧ B δ3) → ∃ δ', loopS tx body (xs.map g) δ = some (.nx δ') ∧ (P (pre ++ xs) δ' ∨ B δ')
  | [], pre, δ, p, _ => ⟨δ, rfl, .inl (by rw [List.append_nil]; exact p)⟩
  | x :: xs, pre, δ, p, h => by
    obtain ⟨δ2, e1, f, e2, q⟩ := h pre x xs δ rfl p
    rcases q with ⟨δ3, rfl, p3⟩ | ⟨δ3, rfl, b3⟩
    · obtain ⟨δ', e4, p4⟩ := loopS_brk g P B xs (pre ++ [x]) δ3 p3 fun p y q δ e hp => h p y q δ (by rw [← e, List.append_assoc]; rfl) hp
      refine ⟨δ', ?_, by rw [List.append_assoc] at p4; exact p4⟩
      show (tx (g x) δ).bind _ = _
      rw [e1]
      show (body δ2).bind _ = _
      rw [e2]; exact e4
    · refine ⟨δ3, ?_, .inr b3⟩
      show (tx (g x) δ).bind _ = _
      rw [e1]
      show (body δ2).bind _ = _
      rw [e2]; rfl
theorem wp_forB {α : Type} {ix : IX} {tx : TX} {sa : SX} {δ δ1 : DEnv} {Q : Fl → Prop} (g : α → D) (P : List α → DEnv → Prop) (B : DEnv → Prop) (xs : List α) (hi : ix δ = some (xs.map g, δ1)) (h0 : P [] δ1) (hs : ∀ p x q δ, xs = p ++ x :: q → P p δ → ∃ δ2, tx (g x) δ = some δ2 ∧ Wp sa δ2 fun f => (∃ δ3, f = .nx δ3 ∧ P (p ++ [x]) δ3) ∨ ∃ δ3, f = .bk δ3 ∧ B δ3)
    (hq : ∀ δ', P xs δ' → Q (.nx δ')) (hb : ∀ δ', B δ' → Q (.nx δ')) : Wp (sFor ix tx sa) δ Q := by
  obtain ⟨δ', e, p⟩ := loopS_brk (tx := tx) (body := sa) g P B xs [] δ1 h0 fun p x q δ e hp => hs p x q δ (by simpa using e) hp
  exact ⟨_, by unfold sFor; rw [hi]; exact e, p.elim (fun p => hq δ' (by simpa using p)) (hb δ')⟩
theorem ahead_pre (cs : List Int) (left : Int) {p s : Rods} {q : Int × Int} (h : (p ++ q :: s).Pairwise (·.1 < ·.1)) : ahead (p ++ q :: s) cs left q.1 = (fit p left fun q => q.2 * atZ cs (left - q.1)).sum := by
  obtain ⟨h1, h2, h3⟩ := List.pairwise_append.mp h
  rw [List.pairwise_cons] at h2
  have a0 : (q :: s).filterMap (aheadT cs left q.1) = [] := by
    rw [List.filterMap_eq_nil_iff]
    intro y hy
    refine if_neg fun z => ?_
    rcases List.mem_cons.mp hy with rfl | hy
    · exact Int.lt_irrefl _ z.1
    · have := h2.1 y hy; omega
  unfold ahead
  rw [List.filterMap_append, a0, List.append_nil]
  unfold fit
  congr 1
  refine fmap_congr p fun y hy => ?_
  have := h3 y hy q List.mem_cons_self
  unfold aheadT
  by_cases c : y.1 ≤ left
  · rw [if_pos c, if_pos ⟨this, c⟩]
  · rw [if_neg c, if_neg fun z => c z.2]
structure RInv (R : Rods) (n : Nat) (place : Int) (W : Rods) (left rest : Int) : Prop where
  w : ∀ p ∈ W, WR R p
  l : left = n - wsum W
  l0 : 0 ≤ left
  r0 : 0 ≤ rest
  r1 : rest < atZ (cl R n) left
  pl : rk R (cl R n) n W + rest = place
abbrev sDec : SX := sIf (bE (eOp gLe (hName 7) (hName 5))) (sSeq (sSet 9 (eOp gMul (hName 8) (hVal (eOp gIx (hName 3) (hVal (eOp DL.gSub (hName 5) (hName 7)))))))
  (sSeq (sIf (bE (eOp gLt (hName 6) (hName 9))) (sSeq (sSet 4 (eOp gAdd (hName 4) (hVal (eTup (aCons (hVal (eTup (aCons (hVal (eVar 7)) (aCons (hVal (eOp gDiv (hName 6) (hVal (eOp gIx (hName 3) (hVal (eOp DL.gSub (hName 5) (hName 7))))))) aNil)))) aNil)))))
  (sSeq (sPar [6, 5] (mP (eOp gMod (hVal (eCall (g1 dInt) (aCons (hName 6) aNil))) (hVal (eOp gIx (hName 3) (hVal (eOp DL.gSub (hName 5) (hName 7)))))) (mP (eOp DL.gSub (hName 5) (hName 7)) mNil)))
  sBreak)) sNext)
  (sAug (fun i j => i - j) 6 (eVar 9)))) sNext
theorem tup_cat {a b : List D} (h : a.length + b.length ≤ lim) : gAdd (.tup a) (.tup b) = some (.tup (a ++ b)) := if_pos h
theorem dec_turn {R : Rods} (h : V R) {n : Nat} (hn : n ≤ 299) {place : Int} {W : Rods} {left rest : Int} (I : RInv R n place W left rest) (hl : 0 < left) (a b c : Option D) :
    Wp (sFor (iSeq (eVar 0)) (txT 2 (txsCons (txN 7) (txsCons (txN 8) txsNil))) sDec) [some (.p (dR R)), some (.p (.int n)), some (.p (.int place)), some (.p (.tup (iD (cl R n)))), some (.p (dW W)), some (.p (.int left)), some (.p (.int rest)), a.map .p, b.map .p, c.map .p] fun f => ∃ (W' : Rods) (left' rest' : Int) (a b c : Option D), f = .nx [some (.p (dR R)), some (.p (.int n)), some (.p (.int place)), some (.p (.tup (iD (cl R n)))), some (.p (dW W')), some (.p (.int left')), some (.p (.int rest')), a.map .p, b.map .p, c.map .p] ∧ RInv R n place W' left' rest' ∧ left' < left := by
  have ws := wsum_nn h I.w
  have wl : W.length ≤ 299 := by have := I.l; have := I.l0; omega
  refine wp_forB tupI (fun pre δ => ∃ a b c : Option D, δ = [some (.p (dR R)), some (.p (.int n)), some (.p (.int place)), some (.p (.tup (iD (cl R n)))), some (.p (dW W)), some (.p (.int left)), some (.p (.int (rest - (fit pre left fun q => q.2 * atZ (cl R n) (left - q.1)).sum))), a.map .p, b.map .p, c.map .p] ∧ 0 ≤ rest - (fit pre left fun q => q.2 * atZ (cl R n) (left - q.1)).sum) (fun δ => ∃ (W' : Rods) (left' rest' : Int) (a b c : Option D), δ = [some (.p (dR R)), some (.p (.int n)), some (.p (.int place)), some (.p (.tup (iD (cl R n)))), some (.p (dW W')), some (.p (.int left')), some (.p (.int rest')), a.map .p, b.map .p, c.map .p] ∧ RInv R n place W' left' rest' ∧ left' < left) R rfl ⟨a, b, c, by simp [fit], by have := I.r0; simp [fit]; omega⟩ ?_ ?_ ?_
  · rintro p x q δ e ⟨a, b, c, rfl, nn⟩
    have lx := h.lo x (by rw [e]; simp)
    refine ⟨[some (.p (dR R)), some (.p (.int n)), some (.p (.int place)), some (.p (.tup (iD (cl R n)))), some (.p (dW W)), some (.p (.int left)), some (.p (.int (rest - (fit p left fun q => q.2 * atZ (cl R n) (left - q.1)).sum))), some (.p (.int x.1)), some (.p (.int x.2)), c.map .p], by cases a <;> cases b <;> simp [sSeq, sDrop, sIf, sRet, sRetO, sRetN, sSet, sSetO, sPar, sApp, sPut, sAug, sNext, sBreak, eFn, oFn, eRef, eArgs, eArgs.dsOf, mP, mO, mNil, eVar, eC, eOp, oOp, eCall, oCall, eOwn, hVal, hName, Hd.d, slotD, aCons, aNil, hds, vals, oLst, eTup, eIf, eAnd, eOr, eNot, eNeg, gNeg, eIsN, eChain, bE, bAnd, bOr, bNot, bYes, eSl, oSl, pSo, pNo, iSeq, iRange, iEnumD, iZipD, Ct.d, Sl.d, ownC, putC, isBor, setN, runV, runR, runO, env0, headB, txN, txT, txsCons, txsNil, List.map, List.length, List.replicate, List.append, addI, subI, leI, ltI, gtI, geI, eqI, neI, g1, lenL, lenT, intI, tupI], ?_⟩
    have fs := fit_snoc p left (fun q => q.2 * atZ (cl R n) (left - q.1)) x
    by_cases c1 : x.1 ≤ left
    · rw [if_pos c1] at fs
      have ln : left ≤ n := by have := I.l; omega
      obtain ⟨y1, y2, y3, y4⟩ := atZ_cl h hn (i := left - x.1) (by omega) (by omega)
      have m2 := mulI (a := x.2) (small_le (k := 12) (by omega) (by omega) (by decide)) y2
      refine wp_t (δ1 := [some (.p (dR R)), some (.p (.int n)), some (.p (.int place)), some (.p (.tup (iD (cl R n)))), some (.p (dW W)), some (.p (.int left)), some (.p (.int (rest - (fit p left fun q => q.2 * atZ (cl R n) (left - q.1)).sum))), some (.p (.int x.1)), some (.p (.int x.2)), c.map .p]) (by simp [sSeq, sDrop, sIf, sRet, sRetO, sRetN, sSet, sSetO, sPar, sApp, sPut, sAug, sNext, sBreak, eFn, oFn, eRef, eArgs, eArgs.dsOf, mP, mO, mNil, eVar, eC, eOp, oOp, eCall, oCall, eOwn, hVal, hName, Hd.d, slotD, aCons, aNil, hds, vals, oLst, eTup, eIf, eAnd, eOr, eNot, eNeg, gNeg, eIsN, eChain, bE, bAnd, bOr, bNot, bYes, eSl, oSl, pSo, pNo, iSeq, iRange, iEnumD, iZipD, Ct.d, Sl.d, ownC, putC, isBor, setN, runV, runR, runO, env0, headB, txN, txT, txsCons, txsNil, List.map, List.length, List.replicate, List.append, addI, subI, leI, ltI, gtI, geI, eqI, neI, g1, lenL, lenT, intI, c1]) ?_
      refine wp_seq (wp_set (e_op rfl (h_val (e_op rfl (h_val (e_op rfl rfl rfl rfl (subI _ _))) rfl rfl y1)) rfl rfl m2) (by cases c <;> rfl) (by cases c <;> rfl) ?_)
      show Wp _ [some (.p (dR R)), some (.p (.int n)), some (.p (.int place)), some (.p (.tup (iD (cl R n)))), some (.p (dW W)), some (.p (.int left)), some (.p (.int (rest - (fit p left fun q => q.2 * atZ (cl R n) (left - q.1)).sum))), some (.p (.int x.1)), some (.p (.int x.2)), some (.p (.int (x.2 * atZ (cl R n) (left - x.1))))] _
      by_cases c2 : rest - (fit p left fun q => q.2 * atZ (cl R n) (left - q.1)).sum < x.2 * atZ (cl R n) (left - x.1)
      · have tp : 0 < atZ (cl R n) (left - x.1) := by
          rcases Int.lt_or_eq_of_le y3 with z | z
          · exact z
          · rw [← z, Int.mul_zero] at c2; omega
        have dv := divI (a := rest - (fit p left fun q => q.2 * atZ (cl R n) (left - q.1)).sum) tp y2
        have md := modI (a := rest - (fit p left fun q => q.2 * atZ (cl R n) (left - q.1)).sum) tp
        generalize hr : rest - (fit p left fun q => q.2 * atZ (cl R n) (left - q.1)).sum = r at *
        have q1 : r / atZ (cl R n) (left - x.1) < x.2 := Int.ediv_lt_of_lt_mul tp c2
        have q0 : 0 ≤ r / atZ (cl R n) (left - x.1) := Int.ediv_nonneg nn y3
        have m0 := Int.emod_nonneg r (show atZ (cl R n) (left - x.1) ≠ 0 by omega)
        have m1 := Int.emod_lt_of_pos r tp
        have de := Int.mul_ediv_add_emod r (atZ (cl R n) (left - x.1))
        refine wp_seq (wp_t (δ1 := [some (.p (dR R)), some (.p (.int n)), some (.p (.int place)), some (.p (.tup (iD (cl R n)))), some (.p (dW W)), some (.p (.int left)), some (.p (.int r)), some (.p (.int x.1)), some (.p (.int x.2)), some (.p (.int (x.2 * atZ (cl R n) (left - x.1))))]) (by simp [sSeq, sDrop, sIf, sRet, sRetO, sRetN, sSet, sSetO, sPar, sApp, sPut, sAug, sNext, sBreak, eFn, oFn, eRef, eArgs, eArgs.dsOf, mP, mO, mNil, eVar, eC, eOp, oOp, eCall, oCall, eOwn, hVal, hName, Hd.d, slotD, aCons, aNil, hds, vals, oLst, eTup, eIf, eAnd, eOr, eNot, eNeg, gNeg, eIsN, eChain, bE, bAnd, bOr, bNot, bYes, eSl, oSl, pSo, pNo, iSeq, iRange, iEnumD, iZipD, Ct.d, Sl.d, ownC, putC, isBor, setN, runV, runR, runO, env0, headB, txN, txT, txsCons, txsNil, List.map, List.length, List.replicate, List.append, addI, subI, leI, ltI, gtI, geI, eqI, neI, g1, lenL, lenT, intI, c2]) ?_)
        refine wp_seq (wp_set (d := dW (W ++ [(x.1, r / atZ (cl R n) (left - x.1))])) (δ1 := [some (.p (dR R)), some (.p (.int n)), some (.p (.int place)), some (.p (.tup (iD (cl R n)))), some (.p (dW W)), some (.p (.int left)), some (.p (.int r)), some (.p (.int x.1)), some (.p (.int x.2)), some (.p (.int (x.2 * atZ (cl R n) (left - x.1))))]) ?_ rfl rfl ?_)
        · have cat := tup_cat (a := W.map tupI) (b := [.tup [.int x.1, .int (r / atZ (cl R n) (left - x.1))]]) (by simp [lim]; omega)
          have e5 : dW (W ++ [(x.1, r / atZ (cl R n) (left - x.1))]) = .tup (W.map tupI ++ [.tup [.int x.1, .int (r / atZ (cl R n) (left - x.1))]]) := by unfold dW; rw [List.map_append]; rfl
          rw [e5]
          exact e_op rfl (h_val (e_tup (a_val (e_tup (a_val (ev_p rfl) (a_val (e_op rfl (h_val (e_op rfl (h_val (e_op rfl rfl rfl rfl (subI _ _))) rfl rfl y1)) rfl rfl dv) a_nil)) rfl (by simp [lim])) a_nil) rfl (by simp [lim]))) rfl rfl cat
        show Wp _ [some (.p (dR R)), some (.p (.int n)), some (.p (.int place)), some (.p (.tup (iD (cl R n)))), some (.p (dW (W ++ [(x.1, r / atZ (cl R n) (left - x.1))]))), some (.p (.int left)), some (.p (.int r)), some (.p (.int x.1)), some (.p (.int x.2)), some (.p (.int (x.2 * atZ (cl R n) (left - x.1))))] _
        refine wp_seq (wp_par rfl (m_p (e_op (h_val (e_call (a_nm rfl a_nil) rfl rfl)) (h_val (e_op rfl (h_val (e_op rfl rfl rfl rfl (subI _ _))) rfl rfl y1)) rfl rfl md) (m_p (e_op rfl rfl rfl rfl (subI _ _)) m_nil)) rfl ?_)
        refine ⟨_, rfl, .inr ⟨_, rfl, W ++ [(x.1, r / atZ (cl R n) (left - x.1))], left - x.1, r % atZ (cl R n) (left - x.1), some (.int x.1), some (.int x.2), some (.int (x.2 * atZ (cl R n) (left - x.1))), rfl, ⟨?_, ?_, by omega, m0, m1, ?_⟩, by omega⟩⟩
        · intro y hy
          rcases List.mem_append.mp hy with hy | hy
          · exact I.w y hy
          · simp at hy; subst hy; exact ⟨x.2, by rw [e]; simp, q0, q1⟩
        · rw [wsum_snoc]; have := I.l; show left - x.1 = n - (wsum W + x.1); omega
        · have hl' : (n : Int) - wsum W = left := I.l.symm
          have ap := ahead_pre (cl R n) left (p := p) (q := x) (s := q) (by rw [← e]; exact h.inc)
          rw [← e] at ap
          rw [rk_snoc, hl']
          show rk R (cl R n) n W + ahead R (cl R n) left x.1 + r / atZ (cl R n) (left - x.1) * atZ (cl R n) (left - x.1) + r % atZ (cl R n) (left - x.1) = place
          rw [ap, Int.mul_comm]
          have := I.pl
          omega
      · refine wp_seq (wp_f (δ1 := [some (.p (dR R)), some (.p (.int n)), some (.p (.int place)), some (.p (.tup (iD (cl R n)))), some (.p (dW W)), some (.p (.int left)), some (.p (.int (rest - (fit p left fun q => q.2 * atZ (cl R n) (left - q.1)).sum))), some (.p (.int x.1)), some (.p (.int x.2)), some (.p (.int (x.2 * atZ (cl R n) (left - x.1))))]) (by simp [sSeq, sDrop, sIf, sRet, sRetO, sRetN, sSet, sSetO, sPar, sApp, sPut, sAug, sNext, sBreak, eFn, oFn, eRef, eArgs, eArgs.dsOf, mP, mO, mNil, eVar, eC, eOp, oOp, eCall, oCall, eOwn, hVal, hName, Hd.d, slotD, aCons, aNil, hds, vals, oLst, eTup, eIf, eAnd, eOr, eNot, eNeg, gNeg, eIsN, eChain, bE, bAnd, bOr, bNot, bYes, eSl, oSl, pSo, pNo, iSeq, iRange, iEnumD, iZipD, Ct.d, Sl.d, ownC, putC, isBor, setN, runV, runR, runO, env0, headB, txN, txT, txsCons, txsNil, List.map, List.length, List.replicate, List.append, addI, subI, leI, ltI, gtI, geI, eqI, neI, g1, lenL, lenT, intI, c2]) (wp_next ?_))
        refine wp_aug rfl (ev_p rfl) rfl (.inl ⟨_, rfl, some (.int x.1), some (.int x.2), some (.int (x.2 * atZ (cl R n) (left - x.1))), ?_, ?_⟩)
        · rw [fs, show rest - ((fit p left fun q => q.2 * atZ (cl R n) (left - q.1)).sum + x.2 * atZ (cl R n) (left - x.1)) = rest - (fit p left fun q => q.2 * atZ (cl R n) (left - q.1)).sum - x.2 * atZ (cl R n) (left - x.1) by omega]; rfl
        · rw [fs]; omega
    · rw [if_neg c1, Int.add_zero] at fs
      refine wp_f (δ1 := [some (.p (dR R)), some (.p (.int n)), some (.p (.int place)), some (.p (.tup (iD (cl R n)))), some (.p (dW W)), some (.p (.int left)), some (.p (.int (rest - (fit p left fun q => q.2 * atZ (cl R n) (left - q.1)).sum))), some (.p (.int x.1)), some (.p (.int x.2)), c.map .p]) (by simp [sSeq, sDrop, sIf, sRet, sRetO, sRetN, sSet, sSetO, sPar, sApp, sPut, sAug, sNext, sBreak, eFn, oFn, eRef, eArgs, eArgs.dsOf, mP, mO, mNil, eVar, eC, eOp, oOp, eCall, oCall, eOwn, hVal, hName, Hd.d, slotD, aCons, aNil, hds, vals, oLst, eTup, eIf, eAnd, eOr, eNot, eNeg, gNeg, eIsN, eChain, bE, bAnd, bOr, bNot, bYes, eSl, oSl, pSo, pNo, iSeq, iRange, iEnumD, iZipD, Ct.d, Sl.d, ownC, putC, isBor, setN, runV, runR, runO, env0, headB, txN, txT, txsCons, txsNil, List.map, List.length, List.replicate, List.append, addI, subI, leI, ltI, gtI, geI, eqI, neI, g1, lenL, lenT, intI, c1]) (wp_next (.inl ⟨_, rfl, some (.int x.1), some (.int x.2), c, ?_, ?_⟩))
      · rw [fs]; rfl
      · rw [fs]; exact nn
  · rintro δ' ⟨a, b, c, rfl, nn⟩
    have := cl_rec h (n := n) (k := left) (by omega) (by have := I.l; omega)
    have := I.r1
    omega
  · rintro δ' ⟨W', left', rest', a, b, c, rfl, I', lt⟩
    exact ⟨W', left', rest', a, b, c, rfl, I', lt⟩
theorem v_row_at {R : Rods} (h : V R) {n : Nat} (hn : n ≤ 299) {place : Int} (p0 : 0 ≤ place) (p1 : place < atZ (cl R n) n) : ∃ W, F_row_at [dR R, .int n, .int place] = some (dW W) ∧ (∀ p ∈ W, WR R p) ∧ wsum W = n ∧ rk R (cl R n) n W = place := by
  have key : Wp s_row_at [some (.p (dR R)), some (.p (.int n)), some (.p (.int place)), none, none, none, none, none, none, none] fun f => ∃ (W : Rods) (δ : DEnv), f = .rt (.p (dW W)) δ ∧ (∀ p ∈ W, WR R p) ∧ wsum W = n ∧ rk R (cl R n) n W = place := by
    refine wp_seq (wp_set (e_fn (m_p (ev_p rfl) (m_p (ev_p rfl) m_nil)) rfl (v_counts h hn)) rfl rfl ?_)
    show Wp _ [some (.p (dR R)), some (.p (.int n)), some (.p (.int place)), some (.p (.tup (iD (cl R n)))), none, none, none, none, none, none] _
    obtain ⟨y1, _⟩ := atZ_cl h hn (i := n) (by omega) (by omega)
    have wi := v_is_within place 0 (atZ (cl R n) n - 1)
    rw [decide_eq_true p0, decide_eq_true (show place ≤ atZ (cl R n) n - 1 by omega)] at wi
    refine wp_seq (wp_f (b_not (b_e (e_fn (m_p (ev_p rfl) (m_p rfl (m_p (e_op (h_val (e_op rfl rfl rfl rfl y1)) rfl rfl rfl (subI _ _)) m_nil))) rfl wi))) (wp_next ?_))
    refine wp_seq (wp_par rfl (m_p (e_tup a_nil rfl (by simp [lim])) (m_p (ev_p rfl) (m_p (ev_p rfl) m_nil))) rfl ?_)
    show Wp _ [some (.p (dR R)), some (.p (.int n)), some (.p (.int place)), some (.p (.tup (iD (cl R n)))), some (.p (dW [])), some (.p (.int n)), some (.p (.int place)), none, none, none] _
    refine wp_seq (wp_while (P := fun m δ => ∃ (W : Rods) (left rest : Int) (a b c : Option D), m = left.toNat ∧ δ = [some (.p (dR R)), some (.p (.int n)), some (.p (.int place)), some (.p (.tup (iD (cl R n)))), some (.p (dW W)), some (.p (.int left)), some (.p (.int rest)), a.map .p, b.map .p, c.map .p] ∧ RInv R n place W left rest) 300 n (by omega) ⟨[], n, place, none, none, none, by omega, rfl, by simp, by unfold wsum; simp, by omega, p0, p1, by show 0 + place = place; omega⟩ ?_)
    rintro m δ ⟨W, left, rest, a, b, c, rfl, rfl, I⟩
    refine ⟨decide (0 < left), [some (.p (dR R)), some (.p (.int n)), some (.p (.int place)), some (.p (.tup (iD (cl R n)))), some (.p (dW W)), some (.p (.int left)), some (.p (.int rest)), a.map .p, b.map .p, c.map .p], rfl, fun z => ?_, fun z => ?_⟩
    · have z := of_decide_eq_false z
      have l0 := I.l0
      have lz : left = 0 := by omega
      have r1 := I.r1
      rw [lz] at r1
      have e0 : atZ (cl R n) 0 = 1 := by rw [cl_at R (m := 0) (by omega) (by omega) (by omega)]; rfl
      rw [e0] at r1
      have := I.r0
      have := I.pl
      have := I.l
      exact wp_ret (ev_p rfl) ⟨W, _, rfl, I.w, by omega, by omega⟩
    · have z := of_decide_eq_true z
      refine (dec_turn h hn I z a b c).mono ?_
      rintro f ⟨W', left', rest', a, b, c, rfl, I', lt⟩
      exact ⟨_, left'.toNat, .inl rfl, by have := I'.l0; omega, W', left', rest', a, b, c, rfl, rfl, I'⟩
  obtain ⟨f, e, W, δ, rfl, hw, hs, hr⟩ := key
  exact ⟨W, runV_wp ⟨_, e, .inl ⟨_, rfl⟩⟩, hw, hs, hr⟩
end K15

namespace K15
open PySem PySem.Spec PyProof.Rows L2 DL
def someT (cs : List Int) (left : Int) (p : Int × Int) : Option D := if p.1 ≤ left ∧ 0 < atZ cs (left - p.1) then some (tupI p) else none
abbrev lcSome : OX := oLc (iSeq (eVar 1)) (txN 7) (bAnd (bE (eOp gLe (hVal (eOp gIx (hName 7) (hVal (eC (.int 0))))) (hName 4))) (bE (eOp gGt (hVal (eOp gIx (hName 2) (hVal (eOp DL.gSub (hName 4) (hVal (eOp gIx (hName 7) (hVal (eC (.int 0))))))))) (hVal (eC (.int 0)))))) (eVar 7) [7]
theorem lc_some {R : Rods} (h : V R) {n : Nat} (hn : n ≤ 299) {left : Int} (l1 : left ≤ n) (hd : Hnd) (W : Rods) (e6 : Option Sl) (r : Option D) : lcSome [some (.b (hC hd)), some (.p (dR R)), some (.p (.lst (iD (cl R n)))), some (.p (.int n)), some (.p (.int left)), some (.o (.lst (W.map tupI))), e6, r.map .p] = some (.lst (R.filterMap (someT (cl R n) left)), [some (.b (hC hd)), some (.p (dR R)), some (.p (.lst (iD (cl R n)))), some (.p (.int n)), some (.p (.int left)), some (.o (.lst (W.map tupI))), e6, r.map .p]) := by
  refine oLc_gen (δw := [some (.b (hC hd)), some (.p (dR R)), some (.p (.lst (iD (cl R n)))), some (.p (.int n)), some (.p (.int left)), some (.o (.lst (W.map tupI))), e6, none]) tupI _ R rfl rfl (by cases r <;> rfl) rfl (fun p hp => ⟨[some (.b (hC hd)), some (.p (dR R)), some (.p (.lst (iD (cl R n)))), some (.p (.int n)), some (.p (.int left)), some (.o (.lst (W.map tupI))), e6, some (.p (tupI p))], rfl, ?_⟩) (by have := h.len; simp [lim]; omega)
  have lp := h.lo p hp
  have b1 : bE (eOp gLe (hVal (eOp gIx (hName 7) (hVal (eC (.int 0))))) (hName 4)) [some (.b (hC hd)), some (.p (dR R)), some (.p (.lst (iD (cl R n)))), some (.p (.int n)), some (.p (.int left)), some (.o (.lst (W.map tupI))), e6, some (.p (tupI p))] = some (decide (p.1 ≤ left), [some (.b (hC hd)), some (.p (dR R)), some (.p (.lst (iD (cl R n)))), some (.p (.int n)), some (.p (.int left)), some (.o (.lst (W.map tupI))), e6, some (.p (tupI p))]) := b_e (e_op (h_val (e_op rfl rfl rfl rfl (t0 p))) rfl rfl rfl (leI _ _))
  by_cases c1 : p.1 ≤ left
  · rw [decide_eq_true c1] at b1
    have y1 := atZ_row h hn (i := left - p.1) (by omega) (by omega)
    have b2 : bE (eOp gGt (hVal (eOp gIx (hName 2) (hVal (eOp DL.gSub (hName 4) (hVal (eOp gIx (hName 7) (hVal (eC (.int 0))))))))) (hVal (eC (.int 0)))) [some (.b (hC hd)), some (.p (dR R)), some (.p (.lst (iD (cl R n)))), some (.p (.int n)), some (.p (.int left)), some (.o (.lst (W.map tupI))), e6, some (.p (tupI p))] = some (decide (0 < atZ (cl R n) (left - p.1)), [some (.b (hC hd)), some (.p (dR R)), some (.p (.lst (iD (cl R n)))), some (.p (.int n)), some (.p (.int left)), some (.o (.lst (W.map tupI))), e6, some (.p (tupI p))]) :=
      b_e (e_op (h_val (e_op rfl (h_val (e_op rfl (h_val (e_op rfl rfl rfl rfl (t0 p))) rfl rfl (subI _ _))) rfl rfl y1)) rfl rfl rfl (gtI _ _))
    by_cases c2 : 0 < atZ (cl R n) (left - p.1)
    · rw [decide_eq_true c2] at b2
      exact .inr ⟨tupI p, _, _, if_pos ⟨c1, c2⟩, b_and_t b1 b2, ev_p rfl, rfl⟩
    · rw [decide_eq_false c2] at b2
      exact .inl ⟨if_neg fun z => c2 z.2, _, b_and_t b1 b2, rfl⟩
  · rw [decide_eq_false c1] at b1
    exact .inl ⟨if_neg fun z => c1 z.1, _, b_and_f b1, rfl⟩
theorem some_ne {R : Rods} (h : V R) {n : Nat} {left : Int} (l0 : 1 ≤ left) (l1 : left ≤ n) (t : 0 < atZ (cl R n) left) : R.filterMap (someT (cl R n) left) ≠ [] := fun z => by
  rw [List.filterMap_eq_nil_iff] at z
  rw [cl_rec h l0 l1] at t
  have : ∀ x ∈ fit R left (fun q => q.2 * atZ (cl R n) (left - q.1)), 0 ≤ x ∧ x ≤ 0 := fun x hx => by
    obtain ⟨p, hp, c, rfl⟩ := fit_mem hx
    have lp := h.lo p hp
    have nn := (cl_bound h n (left - p.1) (by omega) (by omega)).1
    have z1 := z p hp
    unfold someT at z1
    split at z1
    · cases z1
    · rename_i c2
      have : atZ (cl R n) (left - p.1) = 0 := by
        rcases Int.lt_or_eq_of_le nn with y | y
        · exact absurd ⟨c, y⟩ c2
        · exact y.symm
      rw [this, Int.mul_zero]; omega
  have := (sum_le this).2
  rw [Int.mul_zero] at this
  omega
theorem v_row {R : Rods} (h : V R) {n : Nat} (hn : n ≤ 299) (tn : 0 < atZ (cl R n) n) {m : Nat} (hm : m ≤ 1000) {hd : Hnd} (ok : HOk m hd) : ∃ W h', F__law_row (hC hd) [dR R, .lst (iD (cl R n)), .int n] = some (dW W, hC h') ∧ (∀ p ∈ W, WR R p) ∧ wsum W = n ∧ HOk (m + 600) h' := by
  have key : Wp s__law_row [some (.b (hC hd)), some (.p (dR R)), some (.p (.lst (iD (cl R n)))), some (.p (.int n)), none, none, none, none] fun f => ∃ (W : Rods) (h' : Hnd) (δ : DEnv), f = .rt (.p (dW W)) δ ∧ headB δ = some (hC h') ∧ (∀ p ∈ W, WR R p) ∧ wsum W = n ∧ HOk (m + 600) h' := by
    refine wp_seq (wp_par rfl (m_p (ev_p rfl) (m_o (o_lst a_nil rfl (by simp [lim])) m_nil)) rfl ?_)
    show Wp _ [some (.b (hC hd)), some (.p (dR R)), some (.p (.lst (iD (cl R n)))), some (.p (.int n)), some (.p (.int n)), some (.o (.lst ([].map tupI))), none, none] _
    refine wp_seq (wp_while (P := fun k δ => ∃ (W : Rods) (h' : Hnd) (left : Int) (e r : Option D), k = left.toNat ∧ δ = [some (.b (hC h')), some (.p (dR R)), some (.p (.lst (iD (cl R n)))), some (.p (.int n)), some (.p (.int left)), some (.o (.lst (W.map tupI))), e.map .p, r.map .p] ∧ (∀ p ∈ W, WR R p) ∧ left = n - wsum W ∧ 0 ≤ left ∧ 0 < atZ (cl R n) left ∧ HOk (m + 2 * W.length) h') 300 n (by omega) ⟨[], hd, n, none, none, by omega, rfl, by simp, by unfold wsum; simp, by omega, tn, ok⟩ ?_)
    rintro k δ ⟨W, h1, left, e, r, rfl, rfl, hw, hl, l0, tp, ok1⟩
    have ws := wsum_nn h hw
    have wl : W.length ≤ 299 := by omega
    refine ⟨decide (0 < left), [some (.b (hC h1)), some (.p (dR R)), some (.p (.lst (iD (cl R n)))), some (.p (.int n)), some (.p (.int left)), some (.o (.lst (W.map tupI))), e.map .p, r.map .p], rfl, fun z => ?_, fun z => ?_⟩
    · have z := of_decide_eq_false z
      refine wp_ret (d := dW W) (δ1 := [some (.b (hC h1)), some (.p (dR R)), some (.p (.lst (iD (cl R n)))), some (.p (.int n)), some (.p (.int left)), some (.o (.lst (W.map tupI))), e.map .p, r.map .p]) (e_call (a_nm rfl a_nil) rfl rfl) ⟨W, h1, _, rfl, rfl, hw, by omega, ok1.more (by omega)⟩
    · have z := of_decide_eq_true z
      have ne := some_ne h (n := n) (left := left) (by omega) (by omega) tp
      have ln : (R.filterMap (someT (cl R n) left)).length ≤ 8 := Nat.le_trans (List.length_filterMap_le _ _) h.len
      have lp : 0 < (R.filterMap (someT (cl R n) left)).length := List.length_pos_iff.mpr ne
      obtain ⟨d, h2, e2, hd2, ok2⟩ := v_any (by omega) ok1 lp (by omega)
      obtain ⟨q, hq, eq⟩ := List.mem_filterMap.mp hd2
      have lq := h.lo q hq
      unfold someT at eq
      split at eq
      case isFalse => cases eq
      rename_i cq
      cases eq
      obtain ⟨x, h3, e3, x0, x1, ok3⟩ := v_draw (by omega) ok2 (n := q.2) (by omega) (by omega)
      refine wp_seq (wp_setO (lc_some h hn (by omega) h1 W (e.map .p) r) (by cases e <;> rfl) (by cases e <;> rfl) ?_)
      show Wp _ [some (.b (hC h1)), some (.p (dR R)), some (.p (.lst (iD (cl R n)))), some (.p (.int n)), some (.p (.int left)), some (.o (.lst (W.map tupI))), some (.o (.lst (R.filterMap (someT (cl R n) left)))), r.map .p] _
      refine wp_seq (wp_set (d := tupI q) (δ1 := [some (.b (hC h2)), some (.p (dR R)), some (.p (.lst (iD (cl R n)))), some (.p (.int n)), some (.p (.int left)), some (.o (.lst (W.map tupI))), some (.p (.lst (R.filterMap (someT (cl R n) left)))), r.map .p]) (e_ref rfl (m_p (ev_o rfl) m_nil) rfl rfl e2 rfl) (by cases r <;> rfl) (by cases r <;> rfl) ?_)
      show Wp _ [some (.b (hC h2)), some (.p (dR R)), some (.p (.lst (iD (cl R n)))), some (.p (.int n)), some (.p (.int left)), some (.o (.lst (W.map tupI))), some (.p (.lst (R.filterMap (someT (cl R n) left)))), some (.p (tupI q))] _
      refine wp_seq (wp_app (d := tupI (q.1, x)) (δ1 := [some (.b (hC h3)), some (.p (dR R)), some (.p (.lst (iD (cl R n)))), some (.p (.int n)), some (.p (.int left)), some (.o (.lst (W.map tupI))), some (.p (.lst (R.filterMap (someT (cl R n) left)))), some (.p (tupI q))]) rfl (e_tup (a_val (e_op rfl rfl rfl rfl (t0 q)) (a_val (e_ref rfl (m_p (e_op rfl rfl rfl rfl (t1 q)) m_nil) rfl rfl e3 rfl) a_nil)) rfl (by simp [lim])) rfl (by simp [lim]; omega) ?_)
      have e7 : W.map tupI ++ [tupI (q.1, x)] = (W ++ [(q.1, x)]).map tupI := by rw [List.map_append]; rfl
      show Wp _ [some (.b (hC h3)), some (.p (dR R)), some (.p (.lst (iD (cl R n)))), some (.p (.int n)), some (.p (.int left)), some (.o (.lst (W.map tupI ++ [tupI (q.1, x)]))), some (.p (.lst (R.filterMap (someT (cl R n) left)))), some (.p (tupI q))] _
      rw [e7]
      refine wp_set (d := .int (left - q.1)) (δ1 := [some (.b (hC h3)), some (.p (dR R)), some (.p (.lst (iD (cl R n)))), some (.p (.int n)), some (.p (.int left)), some (.o (.lst ((W ++ [(q.1, x)]).map tupI))), some (.p (.lst (R.filterMap (someT (cl R n) left)))), some (.p (tupI q))]) (e_op rfl (h_val (e_op rfl rfl rfl rfl (t0 q))) rfl rfl (subI _ _)) rfl rfl ⟨_, (left - q.1).toNat, .inl rfl, by omega, W ++ [(q.1, x)], h3, left - q.1, some (.lst (R.filterMap (someT (cl R n) left))), some (tupI q), rfl, rfl, ?_, ?_, by omega, cq.2, ok3.more (by simp; omega)⟩
      · intro y hy
        rcases List.mem_append.mp hy with hy | hy
        · exact hw y hy
        · simp at hy; subst hy; exact ⟨q.2, hq, x0, x1⟩
      · rw [wsum_snoc]; show left - q.1 = n - (wsum W + q.1); omega
  obtain ⟨f, e, W, h', δ, rfl, hb, hw, hs, ok'⟩ := key
  exact ⟨W, h', runR_wp ⟨_, e, _, .inl rfl, hb⟩, hw, hs, ok'⟩
end K15

namespace K15
open PySem PySem.Spec PyProof.Rows L2 DL
/-! ### fewest rods -/
def oD : Option Int → D
  | none => .non
  | some i => .int i
def candT (fs : List (Option Int)) (k : Int) (p : Int × Int) : Option Int := if p.1 ≤ k then fs.getD (k - p.1).toNat none else none
def best : List Int → Option Int
  | [] => none
  | x :: r => some (1 + r.foldl min x)
def fl (R : Rods) : Nat → List (Option Int)
  | 0 => [some 0]
  | i + 1 => fl R i ++ [best (R.filterMap (candT (fl R i) (1 + i)))]
theorem fl_succ (R : Rods) (i : Nat) : fl R (i + 1) = fl R i ++ [best (R.filterMap (candT (fl R i) (1 + i)))] := rfl
theorem fl_len (R : Rods) : ∀ i, (fl R i).length = i + 1
  | 0 => rfl
  | i + 1 => by rw [fl_succ, List.length_append, fl_len R i]; rfl
theorem fold_le : ∀ (r : List Int) (x : Int), r.foldl min x ≤ x
  | [], x => Int.le_refl x
  | y :: r, x => Int.le_trans (fold_le r (min x y)) (Int.min_le_left x y)
theorem fold_ge {B : Int} : ∀ (r : List Int) (x : Int), (∀ y ∈ x :: r, B ≤ y) → B ≤ r.foldl min x
  | [], x, h => h x List.mem_cons_self
  | y :: r, x, h => fold_ge r (min x y) fun z hz => by
    rcases List.mem_cons.mp hz with e | hz
    · rw [e]; have := h x List.mem_cons_self; have := h y (by simp); omega
    · exact h z (by simp [hz])
theorem fl_bound {R : Rods} (h : V R) : ∀ (i j : Nat) (v : Int), j ≤ i → (fl R i).getD j none = some v → 0 ≤ v ∧ v ≤ j := by
  intro i
  induction i with
  | zero => intro j v hj e
            have : j = 0 := by omega
            subst this
            have e : some (0 : Int) = some v := e
            cases e; exact ⟨by decide, by decide⟩
  | succ i ih =>
    intro j v hj e
    rw [fl_succ] at e
    rcases Nat.lt_or_ge j (i + 1) with lt | ge
    · rw [List.getD_eq_getElem?_getD, List.getElem?_append_left (by rw [fl_len]; omega), ← List.getD_eq_getElem?_getD] at e
      exact ih j v (by omega) e
    · have hj' : j = i + 1 := by omega
      subst hj'
      rw [List.getD_eq_getElem?_getD, List.getElem?_append_right (by rw [fl_len]; omega), fl_len] at e
      simp at e
      have b : ∀ y ∈ R.filterMap (candT (fl R i) (1 + i)), 0 ≤ y ∧ y ≤ i := fun y hy => by
        obtain ⟨p, hp, e2⟩ := List.mem_filterMap.mp hy
        have lp := h.lo p hp
        unfold candT at e2
        split at e2
        · rename_i c
          have := ih (1 + (i : Int) - p.1).toNat y (by omega) e2
          omega
        · cases e2
      cases q : R.filterMap (candT (fl R i) (1 + i)) with
      | nil => rw [q] at e; cases e
      | cons x r =>
        rw [q] at e b
        have e : some (1 + r.foldl min x) = some v := e
        cases e
        have b1 := fold_le r x
        have b2 := b x List.mem_cons_self
        have b3 := fold_ge (B := 0) r x fun y hy => (b y hy).1
        omega
def neB : List Int → Bool
  | [] => false
  | _ => true
theorem ne_nil (c : List Int) : gNe (.lst (iD c)) (.lst []) = some (.bl (neB c)) := by
  have e : dEq (.lst (iD c)) (.lst []) = some (match c with | [] => true | _ => false) := by
    show ((toPyA (iD c)).bind fun ys => some (PyData.list ys)).bind (fun a => (toPy (.lst [])).bind fun b => if SeqAt.shaped a && SeqAt.shaped b then some (PyData.eqv a b) else none) = _
    rw [toPyA_ints]
    show (if SeqAt.shaped (.list (c.map PyData.int)) && SeqAt.shaped (.list []) then some (PyData.eqv (.list (c.map PyData.int)) (.list [])) else none) = _
    rw [shaped_ints, show SeqAt.shaped (.list []) = true from rfl]
    cases c <;> rfl
  unfold gNe
  rw [e]
  cases c <;> rfl
theorem min_ok (x : Int) (r : List Int) : g1 dMinL [.lst (iD (x :: r))] = some (.int (r.foldl min x)) := by
  show (asInts ((x :: r).map D.int)).bind _ = _
  rw [asInts_map]; rfl
theorem isN_o (o : Option Int) {hx : HX} {δ : DEnv} {x : Hd} (e : hx δ = some (x, δ)) (v : x.d δ = some (oD o)) : eIsN true hx δ = some (.bl o.isSome, δ) := by
  simp only [eIsN, e, Option.bind_some, v]
  cases o <;> rfl
/-- 1 + min(some) if some != [] else None -/
theorem best_ok (c : List Int) {i : Nat} {δ : DEnv} (hi : hName i δ = some (.nm i, δ)) (hv : slotD δ i = some (.lst (iD c))) : (eIf (bE (eOp gNe (hName i) (hVal (eOwn (oLst aNil))))) (eOp gAdd (hVal (eC (.int 1))) (hVal (eCall (g1 dMinL) (aCons (hName i) aNil)))) (eC .non)) δ = some (oD (best c), δ) := by
  have t : bE (eOp gNe (hName i) (hVal (eOwn (oLst aNil)))) δ = some (neB c, δ) := b_e (e_op hi (h_val (e_own (o_lst a_nil rfl (by simp [lim])))) hv rfl (ne_nil c))
  unfold eIf
  rw [t]
  cases c with
  | nil => rfl
  | cons x r =>
    have m : hds δ [Hd.nm i] = some [.lst (iD (x :: r))] := by
      show ((Hd.nm i).d δ).bind _ = _
      rw [show (Hd.nm i).d δ = slotD δ i from rfl, hv]; rfl
    show eOp gAdd (hVal (eC (.int 1))) (hVal (eCall (g1 dMinL) (aCons (hName i) aNil))) δ = _
    exact e_op rfl (h_val (e_call (a_nm hi a_nil) m (min_ok x r))) rfl rfl (addI _ _)
def padF (R : Rods) (n i : Nat) : List D := (fl R i).map oD ++ List.replicate (n - i) .non
theorem padF_len {R : Rods} {n i : Nat} (hi : i ≤ n) : (padF R n i).length = n + 1 := by unfold padF; simp [fl_len]; omega
theorem padF_get {R : Rods} {n i j : Nat} (hj : j ≤ i) : (padF R n i)[j]? = some (oD ((fl R i).getD j none)) := by
  unfold padF
  have hl : j < (fl R i).length := by rw [fl_len]; omega
  rw [List.getElem?_append_left (by simp; exact hl), List.getElem?_map, List.getD_eq_getElem?_getD, List.getElem?_eq_getElem hl]; rfl
theorem padF_set {R : Rods} {n i : Nat} (hi : i < n) : (padF R n i).set (i + 1) (oD (best (R.filterMap (candT (fl R i) (1 + i))))) = padF R n (i + 1) := by
  unfold padF
  rw [fl_succ, List.map_append, List.append_assoc]
  have e : List.replicate (n - i) D.non = .non :: List.replicate (n - (i + 1)) .non := by
    rw [show n - i = (n - (i + 1)) + 1 by omega]; rfl
  rw [e, List.set_append_right _ _ (by simp [fl_len])]
  simp [fl_len]
/-- the comprehension of both texts: at index j the list tells fl R i -/
theorem lc_cand {R : Rods} (h : V R) {i : Nat} (xs : List D) (hx : ∀ j, j ≤ i → xs[j]? = some (oD ((fl R i).getD j none))) {f m a b r : Nat} {δ0 δ δw : DEnv} {c : Ct}
    (hi : iSeq (eVar r) δ0 = some (R.map tupI, δ)) (hw : wipeD δ [a, b] = δw) (hno : noOwn δ [a, b] = true) (hb : backD δ δw [a, b] = δ) (hba : isBor δw a = false) (hbb : ∀ d, isBor (δw.set a d) b = false)
    (hs : ∀ p : Int × Int, let δ2 := (δw.set a (some (.p (.int p.1)))).set b (some (.p (.int p.2))); wipeD δ2 [a, b] = δw ∧ hName a δ2 = some (.nm a, δ2) ∧ slotD δ2 a = some (.int p.1) ∧ hName m δ2 = some (.nm m, δ2) ∧ slotD δ2 m = some (.int (1 + i)) ∧ hName f δ2 = some (.nm f, δ2) ∧ slotD δ2 f = some (.lst xs)) :
    oLc (iSeq (eVar r)) (txT 2 (txsCons (txN a) (txsCons (txN b) txsNil))) (bAnd (bE (eOp gLe (hName a) (hName m))) (bE (eIsN true (hVal (eOp gIx (hName f) (hVal (eOp DL.gSub (hName m) (hName a)))))))) (eOp gIx (hName f) (hVal (eOp DL.gSub (hName m) (hName a)))) [a, b] δ0
      = some (.lst (iD (R.filterMap (candT (fl R i) (1 + i)))), δ) := by
  refine lc_rodsG h _ hi hw hno hb hba hbb fun p hp => ?_
  obtain ⟨s1, s2, s3, s4, s5, s6, s7⟩ := hs p
  have lp := h.lo p hp
  refine ⟨s1, ?_⟩
  have b1 := b_e (e_op (g := gLe) s2 s4 s3 s5 (leI _ _))
  by_cases c1 : p.1 ≤ 1 + (i : Int)
  · rw [decide_eq_true c1] at b1
    have ix : gIx (.lst xs) (.int (1 + i - p.1)) = some (oD ((fl R i).getD (1 + (i : Int) - p.1).toNat none)) := ixG (by omega) (hx _ (by omega))
    have ex := e_op (g := gIx) s6 (h_val (e_op (g := DL.gSub) s4 s2 s5 s3 (subI _ _))) s7 rfl ix
    have b2 := b_e (isN_o _ (h_val ex) rfl)
    have ct : candT (fl R i) (1 + i) p = (fl R i).getD (1 + (i : Int) - p.1).toNat none := if_pos c1
    cases q : (fl R i).getD (1 + (i : Int) - p.1).toNat none with
    | none =>
      rw [q] at b2 ct
      exact .inl ⟨ct, b_and_t b1 b2⟩
    | some v =>
      rw [q] at b2 ct ex
      exact .inr ⟨v, ct, b_and_t b1 b2, ex⟩
  · rw [decide_eq_false c1] at b1
    exact .inl ⟨if_neg c1, b_and_f b1⟩
theorem v_fewest {R : Rods} (h : V R) {n : Nat} (hn : n ≤ 299) : F_fewest [dR R, .int n] = some (oD ((fl R n).getD n none)) := by
  have key : Wp s_fewest [some (.p (dR R)), some (.p (.int n)), none, none, none, none, none] fun f => ∃ δ, f = .rt (.p (oD ((fl R n).getD n none))) δ := by
    refine wp_seq (wp_drop (e_fn (m_p (ev_p rfl) m_nil) rfl (v_check_rods h)) ?_)
    refine wp_seq (wp_drop (e_fn (m_p (ev_p rfl) (m_p rfl (m_p rfl m_nil))) rfl (v_check_number (show (0 : Int) ≤ n by omega) (show (n : Int) ≤ 400 by omega))) ?_)
    show Wp _ [some (.p (dR R)), some (.p (.int n)), none, none, none, none, none] _
    have rep : cRep (.lst [.non]) (.int n) = some (.lst (List.replicate n .non)) := by
      show (if decide (0 ≤ (n : Int)) && decide ([D.non].length * (n : Int).toNat ≤ lim) && decide ((n : Int) ≤ 4000000) then some (Ct.lst (List.replicate (n : Int).toNat [D.non]).flatten) else none) = _
      rw [decide_eq_true (show (0 : Int) ≤ n by omega), decide_eq_true (show [D.non].length * (n : Int).toNat ≤ lim by simp [lim]; omega), decide_eq_true (show (n : Int) ≤ 4000000 by omega)]
      show some (Ct.lst (List.replicate (n : Int).toNat [D.non]).flatten) = _
      rw [Int.toNat_natCast]
      congr 2
      induction n with
      | zero => rfl
      | succ k ih => rw [List.replicate_succ, List.flatten_cons, ih (by omega)]; rfl
    refine wp_seq (wp_setO (c := .lst (padF R n 0)) (o_op (h_val (e_own (o_lst (a_val rfl a_nil) rfl (by simp [lim])))) (h_val (e_own (o_op (h_val (e_own (o_lst (a_val rfl a_nil) rfl (by simp [lim])))) rfl rfl rfl rep))) rfl rfl (cat_ok (by simp [lim]; omega))) rfl rfl ?_)
    show Wp _ [some (.p (dR R)), some (.p (.int n)), some (.o (.lst (padF R n 0))), none, none, none, none] _
    have ir : iRange rg2 (aCons (hVal (eC (.int 1))) (aCons (hVal (eOp gAdd (hName 1) (hVal (eC (.int 1))))) aNil)) [some (.p (dR R)), some (.p (.int n)), some (.o (.lst (padF R n 0))), none, none, none, none] = some (upFrom 1 n, [some (.p (dR R)), some (.p (.int n)), some (.o (.lst (padF R n 0))), none, none, none, none]) := iR2 (a := 1) (b := (n : Int) + 1) rfl rfl rfl rfl (by omega) (by omega) (by omega) (by omega) (by omega)
    refine wp_seq (wp_up (fun i δ => ∃ (m a b : Option D) (s : Option Sl), (∀ c, s ≠ some (.b c)) ∧ δ = [some (.p (dR R)), some (.p (.int n)), some (.o (.lst (padF R n i))), m.map .p, s, a.map .p, b.map .p]) 1 n ir ⟨none, none, none, none, by simp, rfl⟩ ?_ ?_)
    · rintro i δ hi ⟨m, a, b, s, hs, rfl⟩
      have nb : ∀ (x : Option Sl) (y : Option Sl), isBor [some (.p (dR R)), some (.p (.int n)), some (.o (.lst (padF R n i))), x, s, y, b.map .p] 4 = false := fun x y => by
        cases s with
        | none => rfl
        | some s => cases s with
          | b c => exact absurd rfl (hs c)
          | p _ => rfl
          | o _ => rfl
      refine ⟨[some (.p (dR R)), some (.p (.int n)), some (.o (.lst (padF R n i))), some (.p (.int (1 + i))), s, a.map .p, b.map .p], by cases m <;> rfl, ?_⟩
      have lc := lc_cand h (i := i) (padF R n i) (fun j hj => padF_get hj) (f := 2) (m := 3) (a := 5) (b := 6) (r := 0) (c := .lst []) (δ0 := [some (.p (dR R)), some (.p (.int n)), some (.o (.lst (padF R n i))), some (.p (.int (1 + i))), s, a.map .p, b.map .p]) (δ := [some (.p (dR R)), some (.p (.int n)), some (.o (.lst (padF R n i))), some (.p (.int (1 + i))), s, a.map .p, b.map .p]) (δw := [some (.p (dR R)), some (.p (.int n)), some (.o (.lst (padF R n i))), some (.p (.int (1 + i))), s, none, none]) rfl rfl (by cases a <;> cases b <;> rfl) rfl rfl (fun _ => rfl) (fun p => ⟨rfl, rfl, rfl, rfl, rfl, rfl, rfl⟩)
      refine wp_seq (wp_setO lc (nb _ _) (nb _ _) ?_)
      show Wp _ [some (.p (dR R)), some (.p (.int n)), some (.o (.lst (padF R n i))), some (.p (.int (1 + i))), some (.o (.lst (iD (R.filterMap (candT (fl R i) (1 + i)))))), a.map .p, b.map .p] _
      have hj : ixN (padF R n i).length (1 + (i : Int)) = some (i + 1) := by
        have q := ixN_int (n := n + 1) (i := 1 + (i : Int)) (by omega) (by omega)
        rw [padF_len (show i ≤ n by omega), q, show (1 + (i : Int)).toNat = i + 1 by omega]
      refine wp_put (k := 1 + (i : Int)) (j := i + 1) (best_ok _ rfl rfl) rfl rfl rfl rfl hj ⟨_, .inl rfl, some (.int (1 + i)), a, b, some (.o (.lst (iD (R.filterMap (candT (fl R i) (1 + i)))))), ?_, ?_⟩
      · intro c z; cases z
      · show [some (Sl.p (dR R)), some (.p (.int n)), some (.o (.lst ((padF R n i).set (i + 1) (oD (best (R.filterMap (candT (fl R i) (1 + i)))))))), _, _, _, _] = _
        rw [padF_set hi]; rfl
    · rintro δ' ⟨m, a, b, s, hs, rfl⟩
      exact wp_ret (e_op rfl rfl rfl rfl (ixG (by omega) (by rw [Int.toNat_natCast]; exact padF_get (Nat.le_refl n)))) ⟨_, rfl⟩
  obtain ⟨f, e, δ, rfl⟩ := key
  exact runV_wp ⟨_, e, .inl ⟨δ, rfl⟩⟩
end K15

namespace K15
open PySem PySem.Spec PyProof.Rows L2 DL
def leT (k : Int) (p : Int × Int) : Option D := if p.1 ≤ k then some (tupI p) else none
theorem leT_1 {k : Int} {p : Int × Int} (c : p.1 ≤ k) : leT k p = some (tupI p) := if_pos c
theorem leT_2 {k : Int} {p : Int × Int} (c : ¬ p.1 ≤ k) : leT k p = none := if_neg c
theorem filter_T (k : Int) : ∀ (R : Rods), R.filterMap (leT k) = (R.filter fun p => decide (p.1 ≤ k)).map tupI
  | [] => rfl
  | p :: R => by
    by_cases c : p.1 ≤ k
    · rw [List.filterMap_cons_some (leT_1 c), List.filter_cons_of_pos (by simp [c]), List.map_cons, filter_T k R]
    · rw [List.filterMap_cons_none (leT_2 c), List.filter_cons_of_neg (by simp [c]), filter_T k R]
theorem filter_fit (k : Int) (f : Int × Int → Int) : ∀ (R : Rods), (R.filter fun p => decide (p.1 ≤ k)).map f = fit R k f
  | [] => rfl
  | p :: R => by
    have ih := filter_fit k f R
    by_cases c : p.1 ≤ k
    · rw [List.filter_cons_of_pos (by simp [c]), List.map_cons, ih]
      simp [fit, c]
    · rw [List.filter_cons_of_neg (by simp [c]), ih]
      simp [fit, c]
abbrev lcA : OX := oLc (iSeq (eVar 1)) (txT 2 (txsCons (txN 16) (txsCons (txN 17) txsNil))) (bE (eOp gLe (hName 16) (hName 14))) (eTup (aCons (hVal (eVar 16)) (aCons (hVal (eVar 17)) aNil))) [16, 17]
abbrev lcB : OX := oLc (iSeq (eVar 15)) (txT 2 (txsCons (txN 16) (txsCons (txN 17) txsNil))) bYes (eOp gMul (hName 17) (hVal (eOp gAdd (hVal (eOp gIx (hName 12) (hVal (eOp DL.gSub (hName 14) (hName 16))))) (hVal (eOp gIx (hName 3) (hVal (eOp DL.gSub (hName 14) (hName 16)))))))) [16, 17]
section
variable {R : Rods} (h : V R) {n : Nat} (hn : n ≤ 299) (hd : Ct) (x4 x5 x6 x7 x8 x9 x10 x13 : Option Sl)
include h hn
theorem lc_A (i : Nat) (x12 s x18 : Option Sl) : lcA [some (.b hd), some (.p (dR R)), some (.p (.int n)), some (.p (.lst (iD (cl R n)))), x4, x5, x6, x7, x8, x9, x10, none, x12, x13, some (.p (.int (1 + (i : Int)))), s, none, none, x18] = some (.lst ((R.filter fun p => decide (p.1 ≤ 1 + (i : Int))).map tupI), [some (.b hd), some (.p (dR R)), some (.p (.int n)), some (.p (.lst (iD (cl R n)))), x4, x5, x6, x7, x8, x9, x10, none, x12, x13, some (.p (.int (1 + (i : Int)))), s, none, none, x18]) := by
  rw [← filter_T]
  refine oLc_pure tupI (leT (1 + (i : Int))) R rfl rfl rfl rfl (fun p hp => ⟨[some (.b hd), some (.p (dR R)), some (.p (.int n)), some (.p (.lst (iD (cl R n)))), x4, x5, x6, x7, x8, x9, x10, none, x12, x13, some (.p (.int (1 + (i : Int)))), s, some (.p (.int p.1)), some (.p (.int p.2)), x18], rfl, ?_⟩) (by have := h.len; simp [lim]; omega)
  have b1 : bE (eOp gLe (hName 16) (hName 14)) [some (.b hd), some (.p (dR R)), some (.p (.int n)), some (.p (.lst (iD (cl R n)))), x4, x5, x6, x7, x8, x9, x10, none, x12, x13, some (.p (.int (1 + (i : Int)))), s, some (.p (.int p.1)), some (.p (.int p.2)), x18] = some (decide (p.1 ≤ 1 + (i : Int)), [some (.b hd), some (.p (dR R)), some (.p (.int n)), some (.p (.lst (iD (cl R n)))), x4, x5, x6, x7, x8, x9, x10, none, x12, x13, some (.p (.int (1 + (i : Int)))), s, some (.p (.int p.1)), some (.p (.int p.2)), x18]) := b_e (e_op rfl rfl rfl rfl (leI _ _))
  by_cases c : p.1 ≤ 1 + (i : Int)
  · rw [decide_eq_true c] at b1
    exact .inr ⟨tupI p, _, _, leT_1 c, b1, e_tup (a_val (ev_p rfl) (a_val (ev_p rfl) a_nil)) rfl (by simp [lim]), rfl⟩
  · rw [decide_eq_false c] at b1
    exact .inl ⟨leT_2 c, _, b1, rfl⟩
theorem lc_B {i : Nat} (hi : i < n) (x18 : Option Sl) : lcB [some (.b hd), some (.p (dR R)), some (.p (.int n)), some (.p (.lst (iD (cl R n)))), x4, x5, x6, x7, x8, x9, x10, none, some (.o (.lst (iD (ml R n i)))), x13, some (.p (.int (1 + (i : Int)))), some (.o (.lst ((R.filter fun p => decide (p.1 ≤ 1 + (i : Int))).map tupI))), none, none, x18]
    = some (.lst (iD (fit R (1 + i) fun p => p.2 * (atZ (ml R n i) (1 + i - p.1) + atZ (cl R n) (1 + i - p.1)))), [some (.b hd), some (.p (dR R)), some (.p (.int n)), some (.p (.lst (iD (cl R n)))), x4, x5, x6, x7, x8, x9, x10, none, some (.o (.lst (iD (ml R n i)))), x13, some (.p (.int (1 + (i : Int)))), some (.p (.lst ((R.filter fun p => decide (p.1 ≤ 1 + (i : Int))).map tupI))), none, none, x18]) := by
  rw [← filter_fit, iD_map, ← fmap_some (fun p : Int × Int => D.int (p.2 * (atZ (ml R n i) (1 + i - p.1) + atZ (cl R n) (1 + i - p.1))))]
  refine oLc_pure (δ := [some (.b hd), some (.p (dR R)), some (.p (.int n)), some (.p (.lst (iD (cl R n)))), x4, x5, x6, x7, x8, x9, x10, none, some (.o (.lst (iD (ml R n i)))), x13, some (.p (.int (1 + (i : Int)))), some (.p (.lst ((R.filter fun p => decide (p.1 ≤ 1 + (i : Int))).map tupI))), none, none, x18]) tupI _ (R.filter fun p => decide (p.1 ≤ 1 + (i : Int))) rfl rfl rfl rfl (fun p hp => ⟨[some (.b hd), some (.p (dR R)), some (.p (.int n)), some (.p (.lst (iD (cl R n)))), x4, x5, x6, x7, x8, x9, x10, none, some (.o (.lst (iD (ml R n i)))), x13, some (.p (.int (1 + (i : Int)))), some (.p (.lst ((R.filter fun p => decide (p.1 ≤ 1 + (i : Int))).map tupI))), some (.p (.int p.1)), some (.p (.int p.2)), x18], rfl, .inr ⟨_, [some (.b hd), some (.p (dR R)), some (.p (.int n)), some (.p (.lst (iD (cl R n)))), x4, x5, x6, x7, x8, x9, x10, none, some (.o (.lst (iD (ml R n i)))), x13, some (.p (.int (1 + (i : Int)))), some (.p (.lst ((R.filter fun p => decide (p.1 ≤ 1 + (i : Int))).map tupI))), some (.p (.int p.1)), some (.p (.int p.2)), x18], [some (.b hd), some (.p (dR R)), some (.p (.int n)), some (.p (.lst (iD (cl R n)))), x4, x5, x6, x7, x8, x9, x10, none, some (.o (.lst (iD (ml R n i)))), x13, some (.p (.int (1 + (i : Int)))), some (.p (.lst ((R.filter fun p => decide (p.1 ≤ 1 + (i : Int))).map tupI))), some (.p (.int p.1)), some (.p (.int p.2)), x18], rfl, rfl, ?_, rfl⟩⟩) (by have := h.len; have := List.length_filter_le (fun p : Int × Int => decide (p.1 ≤ 1 + (i : Int))) R; simp [lim]; omega)
  obtain ⟨hp, c⟩ := List.mem_filter.mp hp
  have c := of_decide_eq_true c
  obtain ⟨l1, l2, l3, l4⟩ := h.lo p hp
  have y1 := atZ_row h hn (i := 1 + i - p.1) (by omega) (by omega)
  obtain ⟨_, _, y3, y4⟩ := atZ_cl h hn (i := 1 + i - p.1) (by omega) (by omega)
  obtain ⟨z1, z2, z3⟩ := ml_ok h hn (i := i) (by omega) (j := 1 + i - p.1) (by omega) (by omega)
  have m2 := mulI (a := p.2) (small_le (k := 12) (by omega) (by omega) (by decide)) (small_sum z2 z3 y3 (Int.le_trans y4 (p72 hn)))
  exact e_op rfl (h_val (e_op (h_val (e_op rfl (h_val (e_op rfl rfl rfl rfl (subI _ _))) rfl rfl z1)) (h_val (e_op rfl (h_val (e_op rfl rfl rfl rfl (subI _ _))) rfl rfl y1)) rfl rfl (addI _ _))) rfl rfl m2
theorem wp_rodded (m : Option D) (s x18 : Option Sl) (hs : ∀ c, s ≠ some (.b c)) {Q : Fl → Prop} {sb : SX} (hq : ∀ (m : Option D) (s : Option Sl), (∀ c, s ≠ some (.b c)) → Wp sb [some (.b hd), some (.p (dR R)), some (.p (.int n)), some (.p (.lst (iD (cl R n)))), x4, x5, x6, x7, x8, x9, x10, none, some (.o (.lst (iD (ml R n n)))), x13, m.map .p, s, none, none, x18] Q) :
    Wp (sSeq (sFor (iRange rg2 (aCons (hVal (eC (.int 1))) (aCons (hVal (eOp gAdd (hName 2) (hVal (eC (.int 1))))) aNil))) (txN 14) (sSeq (sSetO 15 lcA) (sApp 12 (eCall (g1 dSum) (aCons (hVal (eOwn lcB)) aNil))))) sb) [some (.b hd), some (.p (dR R)), some (.p (.int n)), some (.p (.lst (iD (cl R n)))), x4, x5, x6, x7, x8, x9, x10, none, some (.o (.lst (iD (ml R n 0)))), x13, m.map .p, s, none, none, x18] Q := by
  have ir : iRange rg2 (aCons (hVal (eC (.int 1))) (aCons (hVal (eOp gAdd (hName 2) (hVal (eC (.int 1))))) aNil)) [some (.b hd), some (.p (dR R)), some (.p (.int n)), some (.p (.lst (iD (cl R n)))), x4, x5, x6, x7, x8, x9, x10, none, some (.o (.lst (iD (ml R n 0)))), x13, m.map .p, s, none, none, x18] = some (upFrom 1 n, [some (.b hd), some (.p (dR R)), some (.p (.int n)), some (.p (.lst (iD (cl R n)))), x4, x5, x6, x7, x8, x9, x10, none, some (.o (.lst (iD (ml R n 0)))), x13, m.map .p, s, none, none, x18]) := iR2 (a := 1) (b := (n : Int) + 1) rfl rfl rfl rfl (by omega) (by omega) (by omega) (by omega) (by omega)
  refine wp_seq (wp_up (fun i δ => ∃ (m : Option D) (s : Option Sl), (∀ c, s ≠ some (.b c)) ∧ δ = [some (.b hd), some (.p (dR R)), some (.p (.int n)), some (.p (.lst (iD (cl R n)))), x4, x5, x6, x7, x8, x9, x10, none, some (.o (.lst (iD (ml R n i)))), x13, m.map .p, s, none, none, x18]) 1 n ir ⟨m, s, hs, rfl⟩ ?_ ?_)
  · rintro i δ hi ⟨m, s, hs, rfl⟩
    have nb : ∀ (x y : Option Sl), isBor [some (.b hd), some (.p (dR R)), some (.p (.int n)), some (.p (.lst (iD (cl R n)))), x4, x5, x6, x7, x8, x9, x10, none, x, x13, y, s, none, none, x18] 15 = false := fun x y => by
      cases s with
      | none => rfl
      | some s => cases s with
        | b c => exact absurd rfl (hs c)
        | p _ => rfl
        | o _ => rfl
    refine ⟨[some (.b hd), some (.p (dR R)), some (.p (.int n)), some (.p (.lst (iD (cl R n)))), x4, x5, x6, x7, x8, x9, x10, none, some (.o (.lst (iD (ml R n i)))), x13, some (.p (.int (1 + (i : Int)))), s, none, none, x18], by cases m <;> rfl, ?_⟩
    refine wp_seq (wp_setO (lc_A h hn hd x4 x5 x6 x7 x8 x9 x10 x13 i _ s x18) (nb _ _) (nb _ _) ?_)
    show Wp _ [some (.b hd), some (.p (dR R)), some (.p (.int n)), some (.p (.lst (iD (cl R n)))), x4, x5, x6, x7, x8, x9, x10, none, some (.o (.lst (iD (ml R n i)))), x13, some (.p (.int (1 + (i : Int)))), some (.o (.lst ((R.filter fun p => decide (p.1 ≤ 1 + (i : Int))).map tupI))), none, none, x18] _
    refine wp_app rfl (e_sum (lc_B h hn hd x4 x5 x6 x7 x8 x9 x10 x13 hi x18)) rfl (by rw [iD_len, ml_len]; simp [lim]; omega) ⟨_, .inl rfl, some (.int (1 + i)), some (.p (.lst ((R.filter fun p => decide (p.1 ≤ 1 + (i : Int))).map tupI))), fun c z => (by cases z), ?_⟩
    rw [ml_succ, iD_app]; rfl
  · rintro δ' ⟨m, s, hs, rfl⟩
    exact hq m s hs
abbrev lcF : OX := oLc (iSeq (eVar 1)) (txT 2 (txsCons (txN 16) (txsCons (txN 17) txsNil))) (bAnd (bE (eOp gLe (hName 16) (hName 14))) (bE (eIsN true (hVal (eOp gIx (hName 18) (hVal (eOp DL.gSub (hName 14) (hName 16)))))))) (eOp gIx (hName 18) (hVal (eOp DL.gSub (hName 14) (hName 16)))) [16, 17]
theorem wp_few (m : Option D) (s x12 : Option Sl) (hs : ∀ c, s ≠ some (.b c)) {Q : Fl → Prop} {sb : SX} (hq : ∀ (m : Option D) (s : Option Sl), Wp sb [some (.b hd), some (.p (dR R)), some (.p (.int n)), some (.p (.lst (iD (cl R n)))), x4, x5, x6, x7, x8, x9, x10, none, x12, x13, m.map .p, s, none, none, some (.o (.lst ((fl R n).map oD)))] Q) :
    Wp (sSeq (sFor (iRange rg2 (aCons (hVal (eC (.int 1))) (aCons (hVal (eOp gAdd (hName 2) (hVal (eC (.int 1))))) aNil))) (txN 14) (sSeq (sSetO 15 lcF) (sApp 18 (eIf (bE (eOp gNe (hName 15) (hVal (eOwn (oLst aNil))))) (eOp gAdd (hVal (eC (.int 1))) (hVal (eCall (g1 dMinL) (aCons (hName 15) aNil)))) (eC .non))))) sb) [some (.b hd), some (.p (dR R)), some (.p (.int n)), some (.p (.lst (iD (cl R n)))), x4, x5, x6, x7, x8, x9, x10, none, x12, x13, m.map .p, s, none, none, some (.o (.lst ((fl R 0).map oD)))] Q := by
  have ir : iRange rg2 (aCons (hVal (eC (.int 1))) (aCons (hVal (eOp gAdd (hName 2) (hVal (eC (.int 1))))) aNil)) [some (.b hd), some (.p (dR R)), some (.p (.int n)), some (.p (.lst (iD (cl R n)))), x4, x5, x6, x7, x8, x9, x10, none, x12, x13, m.map .p, s, none, none, some (.o (.lst ((fl R 0).map oD)))] = some (upFrom 1 n, [some (.b hd), some (.p (dR R)), some (.p (.int n)), some (.p (.lst (iD (cl R n)))), x4, x5, x6, x7, x8, x9, x10, none, x12, x13, m.map .p, s, none, none, some (.o (.lst ((fl R 0).map oD)))]) := iR2 (a := 1) (b := (n : Int) + 1) rfl rfl rfl rfl (by omega) (by omega) (by omega) (by omega) (by omega)
  refine wp_seq (wp_up (fun i δ => ∃ (m : Option D) (s : Option Sl), (∀ c, s ≠ some (.b c)) ∧ δ = [some (.b hd), some (.p (dR R)), some (.p (.int n)), some (.p (.lst (iD (cl R n)))), x4, x5, x6, x7, x8, x9, x10, none, x12, x13, m.map .p, s, none, none, some (.o (.lst ((fl R i).map oD)))]) 1 n ir ⟨m, s, hs, rfl⟩ ?_ ?_)
  · rintro i δ hi ⟨m, s, hs, rfl⟩
    have nb : ∀ (x y : Option Sl), isBor [some (.b hd), some (.p (dR R)), some (.p (.int n)), some (.p (.lst (iD (cl R n)))), x4, x5, x6, x7, x8, x9, x10, none, x, x13, y, s, none, none, some (.o (.lst ((fl R i).map oD)))] 15 = false := fun x y => by
      cases s with
      | none => rfl
      | some s => cases s with
        | b c => exact absurd rfl (hs c)
        | p _ => rfl
        | o _ => rfl
    refine ⟨[some (.b hd), some (.p (dR R)), some (.p (.int n)), some (.p (.lst (iD (cl R n)))), x4, x5, x6, x7, x8, x9, x10, none, x12, x13, some (.p (.int (1 + (i : Int)))), s, none, none, some (.o (.lst ((fl R i).map oD)))], by cases m <;> rfl, ?_⟩
    have lc := lc_cand h (i := i) ((fl R i).map oD) (fun j hj => by
      have hl : j < (fl R i).length := by rw [fl_len]; omega
      rw [List.getElem?_map, List.getD_eq_getElem?_getD, List.getElem?_eq_getElem hl]; rfl) (f := 18) (m := 14) (a := 16) (b := 17) (r := 1) (c := .lst []) (δ0 := [some (.b hd), some (.p (dR R)), some (.p (.int n)), some (.p (.lst (iD (cl R n)))), x4, x5, x6, x7, x8, x9, x10, none, x12, x13, some (.p (.int (1 + (i : Int)))), s, none, none, some (.o (.lst ((fl R i).map oD)))]) (δ := [some (.b hd), some (.p (dR R)), some (.p (.int n)), some (.p (.lst (iD (cl R n)))), x4, x5, x6, x7, x8, x9, x10, none, x12, x13, some (.p (.int (1 + (i : Int)))), s, none, none, some (.o (.lst ((fl R i).map oD)))]) (δw := [some (.b hd), some (.p (dR R)), some (.p (.int n)), some (.p (.lst (iD (cl R n)))), x4, x5, x6, x7, x8, x9, x10, none, x12, x13, some (.p (.int (1 + (i : Int)))), s, none, none, some (.o (.lst ((fl R i).map oD)))]) rfl rfl rfl rfl rfl (fun _ => rfl) (fun p => ⟨rfl, rfl, rfl, rfl, rfl, rfl, rfl⟩)
    refine wp_seq (wp_setO lc (nb _ _) (nb _ _) ?_)
    show Wp _ [some (.b hd), some (.p (dR R)), some (.p (.int n)), some (.p (.lst (iD (cl R n)))), x4, x5, x6, x7, x8, x9, x10, none, x12, x13, some (.p (.int (1 + (i : Int)))), some (.o (.lst (iD (R.filterMap (candT (fl R i) (1 + i)))))), none, none, some (.o (.lst ((fl R i).map oD)))] _
    refine wp_app rfl (best_ok _ rfl rfl) rfl (by simp [fl_len, lim]; omega) ⟨_, .inl rfl, some (.int (1 + i)), some (.o (.lst (iD (R.filterMap (candT (fl R i) (1 + i)))))), fun c z => (by cases z), ?_⟩
    rw [fl_succ, List.map_append]; rfl
  · rintro δ' ⟨m, s, hs, rfl⟩
    exact hq m s
end
end K15

namespace K15
open PySem PySem.Spec PyProof.Rows L2 DL
theorem e_sl {g : D → Option Int → Option Int → Option D} {a : HX} {lo hi : PX} {δ δ1 δ2 δ3 : DEnv} {x : Hd} {l u : Option Int} {y z : D} (h : a δ = some (x, δ1)) (h1 : lo δ1 = some (l, δ2)) (h2 : hi δ2 = some (u, δ3)) (hv : x.d δ3 = some y) (hz : g y l u = some z) : eSl g a lo hi δ = some (z, δ3) := by simp only [eSl, h, h1, h2, hv, hz, Option.bind_some]
theorem p_so {ev : EX} {δ δ1 : DEnv} {i : Int} (h : ev δ = some (.int i, δ1)) : pSo ev δ = some (some i, δ1) := by simp only [pSo, h, Option.bind_some]
theorem e_back {a : HX} {δ δ1 : DEnv} {x : Hd} {xs : List D} (h : a δ = some (x, δ1)) (hv : x.d δ1 = some (.tup xs)) : eBack a δ = some (.tup xs.reverse, δ1) := by simp only [eBack, h, hv, Option.bind_some]
theorem sl_to (W : Rods) (k : Nat) : gSl (dW W) none (some (k : Int)) = some (dW (W.take k)) := by
  show some (D.tup (cutD (W.map tupI) none (some (k : Int)))) = _
  rw [cut_to, ← List.map_take]; rfl
theorem sl_from (W : Rods) (k : Nat) : gSl (dW W) (some (k : Int)) none = some (dW (W.drop k)) := by
  show some (D.tup (cutD (W.map tupI) (some (k : Int)) none)) = _
  rw [cut_from, ← List.map_drop]; rfl
theorem sl_from' (W : Rods) (k : Nat) : gSl (dW W) (some ((k : Int) + 1)) none = some (dW (W.drop (k + 1))) := sl_from W (k + 1)
theorem d_cat {A B : Rods} (h : A.length + B.length ≤ lim) : gAdd (dW A) (dW B) = some (dW (A ++ B)) := by
  have := tup_cat (a := A.map tupI) (b := B.map tupI) (by simpa using h)
  rw [← List.map_append] at this
  exact this
theorem wt_row {R : Rods} (h : V R) : ∀ (W : Rods), (∀ p ∈ W, WR R p) → wtA (W.map tupI) = some (3853 * W.length)
  | [], _ => rfl
  | p :: W, hw => by
    obtain ⟨a, b, c, d⟩ := WR_lo h (hw p List.mem_cons_self)
    have l1 : p.1.natAbs.log2 < 1920 := log_le (k := 10) (by omega) (by omega) (by decide) (by decide)
    have l2 : p.2.natAbs.log2 < 1920 := log_le (k := 10) (by omega) (by omega) (by decide) (by decide)
    rw [List.map_cons, wtA, wt_row h W fun q hq => hw q (List.mem_cons_of_mem _ hq)]
    simp only [tupI, wt, wtA, if_pos l1, if_pos l2, Option.map_some, Option.bind_some, List.length_cons]
    congr 1; omega
theorem dp_row : ∀ (W : Rods), dpA (W.map tupI) ≤ 1
  | [] => by decide
  | p :: W => by
    have := dp_row W
    rw [List.map_cons, dpA]
    have : dp (tupI p) = 1 := rfl
    omega
theorem told_three {R : Rods} (h : V R) {W : Rods} (hw : ∀ p ∈ W, WR R p) (hl : W.length ≤ 299) {a b : Int} (ha : a.natAbs.log2 < 1920) (hb : b.natAbs.log2 < 1920) : Told (.lst [.int a, dW W, .int b]) := by
  refine ⟨1922 + 2 + (3853 * W.length + 3 + 2 + (1922 + 2 + 0)) + 3, ?_, ?_, ?_⟩
  · simp only [dW, wt, wtA, if_pos ha, if_pos hb, wt_row h W hw, Option.map_some, Option.bind_some]
  · simp [lim]; omega
  · have := dp_row W
    simp [dW, dp, dpA]; omega
theorem told_flags (bs : List Bool) (h : bs.length ≤ 100) : Told (.lst (bs.map .bl)) := by
  have w : ∀ bs : List Bool, wtA (bs.map .bl) = some (8 * bs.length) := fun bs => by
    induction bs with
    | nil => rfl
    | cons b r ih =>
      rw [List.map_cons, wtA, ih]
      simp only [wt, Option.map_some, Option.bind_some, List.length_cons]
      congr 1; omega
  have d : ∀ bs : List Bool, dpA (bs.map .bl) = 0 := fun bs => by
    induction bs with
    | nil => rfl
    | cons b r ih => rw [List.map_cons, dpA, ih]; rfl
  refine ⟨8 * bs.length + 3, ?_, by simp [lim]; omega, ?_⟩
  · simp only [wt, w, Option.map_some]
  · simp [dp, d]
def oW : Option Int → Nat
  | none => 6
  | some _ => 1922
theorem told_last {a b : Int} {o : Option Int} (ha : a.natAbs.log2 < 1920) (hb : b.natAbs.log2 < 1920) (ho : ∀ v, o = some v → v.natAbs.log2 < 1920) : Told (.lst [.int a, .int b, oD o]) := by
  refine ⟨1922 + 2 + (1922 + 2 + (oW o + 2 + 0)) + 3, ?_, ?_, ?_⟩
  · have w : wt (oD o) = some (oW o) := by
      cases o with
      | none => rfl
      | some v => exact if_pos (ho v rfl)
    simp only [wt, wtA, if_pos ha, if_pos hb, w, Option.map_some, Option.bind_some]
  · cases o <;> simp [oW, lim]
  · cases o <;> simp [oD, dp, dpA]
/-- the six things -/
theorem fill_row {R : Rods} (h : V R) {n : Nat} (hn : n ≤ 299) {W : Rods} (hw : ∀ p ∈ W, WR R p) (hs : wsum W = n) : F_is_filled [dR R, .int n, dW W] = some (.bl true) := by
  have wl := (wsum_nn h hw).2
  rw [v_is_filled h n W (by omega)]
  have a : W.all (isRod R) = true := List.all_eq_true.mpr fun p hp => isRod_of (hw p hp)
  have b : decide ((W.map (·.1)).sum = (n : Int)) = true := decide_eq_true hs
  rw [a, b]; rfl
theorem not_rod {R : Rods} (h : V R) {p : Int × Int} (hp : 9 ≤ p.2) : isRod R p = false := by
  unfold isRod
  rw [List.any_eq_false]
  intro q hq
  have := h.lo q hq
  simp [rodB]; omega
theorem fill_bent {R : Rods} (h : V R) {n : Nat} {W : Rods} (hl : W.length ≤ 10000) {p : Int × Int} (hp : p ∈ W) (h9 : 9 ≤ p.2) : F_is_filled [dR R, .int n, dW W] = some (.bl false) := by
  rw [v_is_filled h n W hl]
  have a : W.all (isRod R) = false := by
    rw [List.all_eq_false]
    exact ⟨p, hp, by rw [not_rod h h9]; decide⟩
  rw [a]; rfl
theorem fill_short {R : Rods} (h : V R) {n : Nat} {W : Rods} (hl : W.length ≤ 10000) (hs : wsum W ≠ n) : F_is_filled [dR R, .int n, dW W] = some (.bl false) := by
  rw [v_is_filled h n W hl]
  have b : decide ((W.map (·.1)).sum = (n : Int)) = false := decide_eq_false hs
  rw [b, Bool.and_false]
end K15

namespace K15
open PySem PySem.Spec PyProof.Rows L2 DL
theorem pow9 : gPow (.int 10) (.int 9) = some (.int 1000000000) := rfl
theorem t9 (p : Int × Int) : gAdd (.int p.2) (.int 9) = some (.int (p.2 + 9)) := rfl
abbrev sTail : SX := (sSeq (sPar [12, 13] (mO (oLst (aCons (hVal (eC (.int 0))) aNil)) (mP (eRef F__law_draw 0 (mP (eOp gAdd (hName 2) (hVal (eC (.int 1)))) mNil)) mNil)))
  (sSeq (sFor (iRange rg2 (aCons (hVal (eC (.int 1))) (aCons (hVal (eOp gAdd (hName 2) (hVal (eC (.int 1))))) aNil))) (txN 14) (sSeq (sSetO 15 lcA) (sApp 12 (eCall (g1 dSum) (aCons (hVal (eOwn lcB)) aNil)))))
  (sSeq (sSetO 18 (oLst (aCons (hVal (eC (.int 0))) aNil)))
  (sSeq (sFor (iRange rg2 (aCons (hVal (eC (.int 1))) (aCons (hVal (eOp gAdd (hName 2) (hVal (eC (.int 1))))) aNil))) (txN 14) (sSeq (sSetO 15 lcF)
  (sApp 18 (eIf (bE (eOp gNe (hName 15) (hVal (eOwn (oLst aNil))))) (eOp gAdd (hVal (eC (.int 1))) (hVal (eCall (g1 dMinL) (aCons (hName 15) aNil)))) (eC .non)))))
  (sSeq (sSetO 7 (oLst (aCons (hVal (eFn F_mean_rods (mP (eVar 1) (mP (eVar 2) mNil)))) (aCons (hVal (eFn F_broken_at (mP (eVar 1) (mP (eVar 2) (mP (eVar 13) mNil))))) (aCons (hVal (eFn F_fewest (mP (eVar 1) (mP (eVar 2) mNil)))) aNil)))))
  (sRet (eFn F__law_like (mP (eVar 7) (mP (eOwn (oLst (aCons (hVal (eOp gIx (hName 12) (hName 2))) (aCons (hVal (eOp gMul (hVal (eOp gIx (hName 3) (hName 13))) (hVal (eOp gIx (hName 3) (hVal (eOp DL.gSub (hName 2) (hName 13))))))) (aCons (hVal (eOp gIx (hName 18) (hName 2))) aNil))))) mNil)))))))))
section
variable {R : Rods} (h : V R) {n : Nat} (n0 : 1 ≤ n) (hn : n ≤ 299)
include h n0 hn
theorem tail_ok {m : Nat} (hm : m ≤ 90000) {hd : Hnd} (ok : HOk m hd) (x4 x5 x6 x7 x8 x9 : D) (x10 : Option Sl) (h10 : ∀ c, x10 ≠ some (.b c)) :
    Wp sTail [some (.b (hC hd)), some (.p (dR R)), some (.p (.int n)), (some (.p (.lst (iD (cl R n))))), (some (.p x4)), (some (.p x5)), (some (.p x6)), (some (.p x7)), (some (.p x8)), (some (.p x9)), x10, none, none, none, none, none, none, none, none] fun f => ∃ (h' : Hnd) (δ : DEnv), f = .rt (.p (.bl true)) δ ∧ headB δ = some (hC h') ∧ HOk (m + 1) h' := by
  obtain ⟨s, h1, e1, s0, s1, ok1⟩ := v_draw (by omega) ok (n := (n : Int) + 1) (by omega) (by omega)
  obtain ⟨k, rfl⟩ : ∃ k : Nat, s = k := ⟨s.toNat, by omega⟩
  have hk : k ≤ n := by omega
  refine wp_seq (wp_par (xs := [.o (.lst [.int 0]), .p (.int k)]) (δ1 := [some (.b (hC h1)), some (.p (dR R)), some (.p (.int n)), (some (.p (.lst (iD (cl R n))))), (some (.p x4)), (some (.p x5)), (some (.p x6)), (some (.p x7)), (some (.p x8)), (some (.p x9)), x10, none, none, none, none, none, none, none, none]) rfl (m_o (o_lst (a_val rfl a_nil) rfl (by simp [lim])) (m_p (e_ref rfl (m_p (e_op rfl rfl rfl rfl (addI _ _)) m_nil) rfl rfl e1 rfl) m_nil)) rfl ?_)
  refine wp_rodded h hn (hC h1) (some (.p x4)) (some (.p x5)) (some (.p x6)) (some (.p x7)) (some (.p x8)) (some (.p x9)) x10 (some (.p (.int k))) none none none (fun c z => by cases z) fun m1 s1 hs1 => ?_
  refine wp_seq (wp_setO (o_lst (a_val rfl a_nil) rfl (by simp [lim])) (by rfl) (by rfl) ?_)
  refine wp_few h hn (hC h1) (some (.p x4)) (some (.p x5)) (some (.p x6)) (some (.p x7)) (some (.p x8)) (some (.p x9)) x10 (some (.p (.int k))) m1 s1 (some (.o (.lst (iD (ml R n n))))) hs1 fun m2 s2 => ?_
  obtain ⟨z1, z2, z3⟩ := ml_ok h hn (i := n) (Nat.le_refl _) (j := n) (by omega) (by omega)
  obtain ⟨_, a0, a1, a2⟩ := atZ_cl h hn (i := k) (by omega) (by omega)
  obtain ⟨_, b0, b1, b2⟩ := atZ_cl h hn (i := (n : Int) - k) (by omega) (by omega)
  have a3 := (cl_bound h n k (by omega) (by omega)).2
  have b3 := (cl_bound h n ((n : Int) - k) (by omega) (by omega)).2
  have y1 := atZ_row h hn (i := k) (by omega) (by omega)
  have y2 := atZ_row h hn (i := (n : Int) - k) (by omega) (by omega)
  have p0 : (0 : Int) ≤ 72 ^ (k : Int).toNat := Int.pow_nonneg (by decide)
  have pr : atZ (cl R n) k * atZ (cl R n) ((n : Int) - k) ≤ 72 ^ 299 := by
    refine Int.le_trans (Int.mul_le_mul a3 b3 b1 p0) ?_
    rw [← Int.pow_add]
    exact p72 (by omega)
  have f1 : gIx (.lst ((fl R n).map oD)) (.int n) = some (oD ((fl R n).getD n none)) := ixG (by omega) (by
    have hl : n < (fl R n).length := by rw [fl_len]; omega
    rw [Int.toNat_natCast, List.getElem?_map, List.getD_eq_getElem?_getD, List.getElem?_eq_getElem hl]; rfl)
  have told := told_last (a := atZ (ml R n n) n) (b := atZ (cl R n) k * atZ (cl R n) ((n : Int) - k)) (o := (fl R n).getD n none) (log_big z2 (by omega)) (log_big (Int.mul_nonneg a1 b1) (by omega)) (fun v hv => by
    obtain ⟨u1, u2⟩ := fl_bound h n n v (Nat.le_refl _) hv
    exact log_le (k := 12) u1 (by omega) (by decide) (by decide))
  refine wp_seq (wp_setO (o_lst (a_val (e_fn (m_p (ev_p rfl) (m_p (ev_p rfl) m_nil)) rfl (v_mean_rods h hn)) (a_val (e_fn (m_p (ev_p rfl) (m_p (ev_p rfl) (m_p (ev_p rfl) m_nil))) rfl (v_broken_at h hn hk)) (a_val (e_fn (m_p (ev_p rfl) (m_p (ev_p rfl) m_nil)) rfl (v_fewest h hn)) a_nil))) rfl (by simp [lim])) rfl rfl ?_)
  exact wp_ret (e_fn (m_p (ev_o rfl) (m_p (e_own (o_lst (a_val (e_op rfl rfl rfl rfl z1) (a_val (e_op (h_val (e_op rfl rfl rfl rfl y1)) (h_val (e_op rfl (h_val (e_op rfl rfl rfl rfl (subI _ _))) rfl rfl y2)) rfl rfl (mulI a0 b0)) (a_val (e_op rfl rfl rfl rfl f1) a_nil))) rfl (by simp [lim]))) m_nil)) rfl (v__law_like told)) ⟨h1, _, rfl, rfl, ok1⟩
end
end K15

namespace K15
open PySem PySem.Spec PyProof.Rows L2 DL
def sixB : List Bool := [true, true, false, false, false, true]
def bentR (W : Rods) (k : Nat) (p : Int × Int) : Rods := W.take k ++ [(p.1, p.2 + 9)] ++ W.drop (k + 1)
abbrev lcSix : OX := (oLc (iSeq (eTup (aCons (hVal (eVar 4)) (aCons (hVal (eVar 7)) (aCons (hVal (eVar 9)) (aCons (hVal (eSl gSl (hName 4) (pSo (eC (.int 1))) pNo)) (aCons (hVal (eOwn (oCall (c1 cList) (aCons (hName 4) aNil)))) (aCons (hVal (eBack (hName 4))) aNil)))))))) (txN 11) bYes (eFn F_is_filled (mP (eVar 1) (mP (eVar 2) (mP (eVar 11) mNil)))) [11])
theorem lc_six {R : Rods} (h : V R) {n : Nat} (n0 : 1 ≤ n) (hn : n ≤ 299) (hd : Hnd) {W U : Rods} (hW : ∀ p ∈ W, WR R p) (sW : wsum W = n) (hU : ∀ p ∈ U, WR R p) (sU : wsum U = n) {k : Nat} (hk : k < W.length) (x5 x6 x8 : D) :
    lcSix [some (.b (hC hd)), some (.p (dR R)), some (.p (.int n)), (some (.p (.lst (iD (cl R n))))), (some (.p (dW W))), (some (.p x5)), (some (.p x6)), (some (.p (dW U))), (some (.p x8)), (some (.p (dW (bentR W k W[k])))), none, none, none, none, none, none, none, none, none] = some (.lst (sixB.map .bl), [some (.b (hC hd)), some (.p (dR R)), some (.p (.int n)), (some (.p (.lst (iD (cl R n))))), (some (.p (dW W))), (some (.p x5)), (some (.p x6)), (some (.p (dW U))), (some (.p x8)), (some (.p (dW (bentR W k W[k])))), none, none, none, none, none, none, none, none, none]) := by
  have wl := (wsum_nn h hW).2
  have e : sixB.map D.bl = [(dW W, true), (dW U, true), (dW (bentR W k W[k]), false), (dW (W.drop 1), false), (D.lst (W.map tupI), false), (dW W.reverse, true)].filterMap fun q : D × Bool => some (D.bl q.2) := rfl
  rw [e]
  refine oLc_pure (fun q : D × Bool => q.1) _ _ ?_ rfl rfl rfl (fun q hq => ⟨[some (.b (hC hd)), some (.p (dR R)), some (.p (.int n)), (some (.p (.lst (iD (cl R n))))), (some (.p (dW W))), (some (.p x5)), (some (.p x6)), (some (.p (dW U))), (some (.p x8)), (some (.p (dW (bentR W k W[k])))), none, (some (.p q.1)), none, none, none, none, none, none, none], rfl, .inr ⟨_, [some (.b (hC hd)), some (.p (dR R)), some (.p (.int n)), (some (.p (.lst (iD (cl R n))))), (some (.p (dW W))), (some (.p x5)), (some (.p x6)), (some (.p (dW U))), (some (.p x8)), (some (.p (dW (bentR W k W[k])))), none, (some (.p q.1)), none, none, none, none, none, none, none], [some (.b (hC hd)), some (.p (dR R)), some (.p (.int n)), (some (.p (.lst (iD (cl R n))))), (some (.p (dW W))), (some (.p x5)), (some (.p x6)), (some (.p (dW U))), (some (.p x8)), (some (.p (dW (bentR W k W[k])))), none, (some (.p q.1)), none, none, none, none, none, none, none], rfl, rfl, e_fn (m_p (ev_p rfl) (m_p (ev_p rfl) (m_p (ev_p rfl) m_nil))) rfl ?_, rfl⟩⟩) (by simp [lim])
  · unfold iSeq
    rw [e_tup (a_val (ev_p rfl) (a_val (ev_p rfl) (a_val (ev_p rfl) (a_val (e_sl rfl (p_so rfl) rfl rfl (sl_from W 1)) (a_val (e_own (o_call (a_nm rfl a_nil) rfl (c := .lst (W.map tupI)) rfl)) (a_val (e_back rfl rfl) a_nil)))))) rfl (by simp [lim])]
    show some (_, _) = some (_, _)
    rw [← List.map_reverse]; rfl
  · have hr : wsum W.reverse = n := by rw [← sW]; unfold wsum; rw [List.map_reverse, List.sum_reverse]
    have b1 : bentR W k W[k] = W.take k ++ [(W[k].1, W[k].2 + 9)] ++ W.drop (k + 1) := rfl
    have l1 : (bentR W k W[k]).length ≤ 10000 := by rw [b1]; simp; omega
    have m1 : (W[k].1, W[k].2 + 9) ∈ bentR W k W[k] := by rw [b1]; simp
    have g1 := WR_lo h (hW W[k] (List.getElem_mem hk))
    have d1 : wsum (W.drop 1) ≠ n := by
      cases W with
      | nil => simp at hk
      | cons p W =>
        have := WR_lo h (hW p List.mem_cons_self)
        rw [wsum_cons] at sW
        show wsum W ≠ n
        omega
    simp only [List.mem_cons, List.not_mem_nil, or_false] at hq
    rcases hq with rfl | rfl | rfl | rfl | rfl | rfl
    · exact fill_row h hn hW sW
    · exact fill_row h hn hU sU
    · exact fill_bent h l1 m1 (by show 9 ≤ W[k].2 + 9; omega)
    · exact fill_short h (by rw [List.length_drop]; omega) d1
    · exact v_is_filled_l h n _
    · exact fill_row h hn (fun p hp => hW p (List.mem_reverse.mp hp)) hr
theorem v_is_row_right {R : Rods} (h : V R) {n : Nat} (n0 : 1 ≤ n) (hn : n ≤ 299) (tn : 0 < atZ (cl R n) n) {m : Nat} (hm : m ≤ 1000) {hd : Hnd} (ok : HOk m hd) : ∃ h', F__law_is_row_right (hC hd) [dR R, .int n] = some (.bl true, hC h') ∧ HOk (m + 700) h' := by
  have key : Wp s__law_is_row_right [some (.b (hC hd)), some (.p (dR R)), some (.p (.int n)), none, none, none, none, none, none, none, none, none, none, none, none, none, none, none, none] fun f => ∃ (h' : Hnd) (δ : DEnv), f = .rt (.p (.bl true)) δ ∧ headB δ = some (hC h') ∧ HOk (m + 700) h' := by
    obtain ⟨W, h1, eW, wW, sW, ok1⟩ := v_row h hn tn hm ok
    obtain ⟨k0, k1⟩ := rk_lt h (n := n) W n wW sW (Int.le_refl _)
    have kv := v__law_rank h hn wW sW (Int.le_refl _)
    have rv := v_rank h hn wW sW
    have wl := (wsum_nn h wW).2
    obtain ⟨r1, h2, e2, r10, r11, ok2⟩ := v_draw (by omega) ok1 (n := 1000000000) (by decide) (by decide)
    obtain ⟨r2, h3, e3, r20, r21, ok3⟩ := v_draw (by omega) ok2 (n := 1000000000) (by decide) (by decide)
    have o0 := Int.emod_nonneg (r1 * 1000000000 + r2) (show atZ (cl R n) n ≠ 0 by omega)
    have o1 := Int.emod_lt_of_pos (r1 * 1000000000 + r2) tn
    obtain ⟨W', eW', wW', sW', kW'⟩ := v_row_at h hn k0 k1
    have ww : W' = W := rk_inj h W' W n wW' wW sW' sW (Int.le_refl _) kW'
    subst ww
    have yn := atZ_row h hn (i := n) (by omega) (by omega)
    obtain ⟨_, bn⟩ := cl_val h hn (i := n) (by omega) (by omega)
    have mu := mulI (a := r1) (b := 1000000000) (small_le (k := 100) r10 (by omega) (by decide)) (small_le (k := 100) (by decide) (by decide) (by decide))
    refine wp_seq (wp_set (e_fn (m_p (ev_p rfl) (m_p (ev_p rfl) m_nil)) rfl (v__law_counts h hn)) rfl rfl ?_)
    refine wp_seq (wp_set (d := dW W') (δ1 := [some (.b (hC h1)), some (.p (dR R)), some (.p (.int n)), (some (.p (.lst (iD (cl R n))))), none, none, none, none, none, none, none, none, none, none, none, none, none, none, none]) (e_ref rfl (m_p (ev_p rfl) (m_p (ev_p rfl) (m_p (ev_p rfl) m_nil))) rfl rfl eW rfl) rfl rfl ?_)
    refine wp_seq (wp_set (e_fn (m_p (ev_p rfl) (m_p (ev_p rfl) (m_p (ev_p rfl) m_nil))) rfl kv) rfl rfl ?_)
    refine wp_seq (wp_set (d := .int (r1 * 1000000000 + r2)) (δ1 := [some (.b (hC h3)), some (.p (dR R)), some (.p (.int n)), (some (.p (.lst (iD (cl R n))))), (some (.p (dW W'))), (some (.p (.int (rk R (cl R n) n W')))), none, none, none, none, none, none, none, none, none, none, none, none, none]) (e_op (h_val (e_op (h_val (e_ref rfl (m_p (e_op rfl rfl rfl rfl pow9) m_nil) rfl rfl e2 rfl)) (h_val (e_op rfl rfl rfl rfl pow9)) rfl rfl mu)) (h_val (e_ref rfl (m_p (e_op rfl rfl rfl rfl pow9) m_nil) rfl rfl e3 rfl)) rfl rfl (addI _ _)) rfl rfl ?_)
    refine wp_seq (wp_set (e_op (h_val (e_call (a_nm rfl a_nil) rfl rfl)) (h_val (e_op rfl rfl rfl rfl yn)) rfl rfl (modI tn)) rfl rfl ?_)
    obtain ⟨U, eU, wU, sU, kU⟩ := v_row_at h hn o0 o1
    generalize (r1 * 1000000000 + r2) % atZ (cl R n) n = o at *
    have uv := v__law_rank h hn wU sU (Int.le_refl _)
    rw [kU] at uv
    have told := told_three h wW (by omega) (a := rk R (cl R n) n W') (b := o) (log_big k0 (by omega)) (log_big o0 (by omega))
    refine wp_seq (wp_set (e_fn (m_p (ev_p rfl) (m_p (ev_p rfl) (m_p (ev_p rfl) m_nil))) rfl eU) rfl rfl ?_)
    show Wp _ [some (.b (hC h3)), some (.p (dR R)), some (.p (.int n)), (some (.p (.lst (iD (cl R n))))), (some (.p (dW W'))), (some (.p (.int (rk R (cl R n) n W')))), (some (.p (.int o))), (some (.p (dW U))), none, none, none, none, none, none, none, none, none, none, none] _
    refine wp_seq (wp_f (δ1 := [some (.b (hC h3)), some (.p (dR R)), some (.p (.int n)), (some (.p (.lst (iD (cl R n))))), (some (.p (dW W'))), (some (.p (.int (rk R (cl R n) n W')))), (some (.p (.int o))), (some (.p (dW U))), none, none, none, none, none, none, none, none, none, none, none]) (b_not (b := true) (b_e (e_fn (m_p (e_own (o_lst (a_val (e_fn (m_p (ev_p rfl) (m_p (ev_p rfl) m_nil)) rfl rv) (a_val (e_fn (m_p (ev_p rfl) (m_p (ev_p rfl) (m_p (ev_p rfl) m_nil))) rfl eW') (a_val (e_fn (m_p (ev_p rfl) (m_p (ev_p rfl) (m_p (ev_p rfl) m_nil))) rfl uv) a_nil))) rfl (by simp [lim]))) (m_p (e_own (o_lst (a_val (ev_p rfl) (a_val (ev_p rfl) (a_val (ev_p rfl) a_nil))) rfl (by simp [lim]))) m_nil)) rfl (v__law_like told)))) (wp_next ?_))
    have ne : 0 < W'.length := by
      cases W' with
      | nil => unfold wsum at sW; simp at sW; omega
      | cons _ _ => simp
    obtain ⟨a, h4, e4, a0, a1, ok4⟩ := v_draw (by omega) ok3 (n := ((W'.map tupI).length : Int)) (by simp; omega) (by simp; omega)
    obtain ⟨k, rfl⟩ : ∃ k : Nat, a = k := ⟨a.toNat, by omega⟩
    have hk : k < W'.length := by simp at a1; omega
    refine wp_seq (wp_set (d := .int k) (δ1 := [some (.b (hC h4)), some (.p (dR R)), some (.p (.int n)), (some (.p (.lst (iD (cl R n))))), (some (.p (dW W'))), (some (.p (.int (rk R (cl R n) n W')))), (some (.p (.int o))), (some (.p (dW U))), none, none, none, none, none, none, none, none, none, none, none]) (e_ref rfl (m_p (e_call (a_nm rfl a_nil) rfl rfl) m_nil) rfl rfl e4 rfl) rfl rfl ?_)
    have ix : gIx (dW W') (.int k) = some (tupI W'[k]) := ixGT (by omega) (by rw [Int.toNat_natCast, List.getElem?_map, List.getElem?_eq_getElem hk]; rfl)
    have c1 : gAdd (dW (W'.take k)) (dW [(W'[k].1, W'[k].2 + 9)]) = some (dW (W'.take k ++ [(W'[k].1, W'[k].2 + 9)])) := d_cat (by simp [lim]; omega)
    have c2 : gAdd (dW (W'.take k ++ [(W'[k].1, W'[k].2 + 9)])) (dW (W'.drop (k + 1))) = some (dW (bentR W' k W'[k])) := d_cat (by simp [lim]; omega)
    refine wp_seq (wp_set (d := dW (bentR W' k W'[k])) (δ1 := [some (.b (hC h4)), some (.p (dR R)), some (.p (.int n)), (some (.p (.lst (iD (cl R n))))), (some (.p (dW W'))), (some (.p (.int (rk R (cl R n) n W')))), (some (.p (.int o))), (some (.p (dW U))), (some (.p (.int k))), none, none, none, none, none, none, none, none, none, none]) (e_op (h_val (e_op (h_val (e_sl rfl rfl (p_so (ev_p rfl)) rfl (sl_to W' k))) (h_val (e_tup (a_val (e_tup (a_val (e_op (h_val (e_op rfl rfl rfl rfl ix)) rfl rfl rfl (t0 _)) (a_val (e_op (h_val (e_op (h_val (e_op rfl rfl rfl rfl ix)) rfl rfl rfl (t1 _))) rfl rfl rfl (addI _ _)) a_nil)) rfl (by simp [lim])) a_nil) rfl (by simp [lim]))) rfl rfl c1)) (h_val (e_sl rfl (p_so (e_op rfl rfl rfl rfl (addI _ _))) rfl rfl (sl_from' W' k))) rfl rfl c2) rfl rfl ?_)
    refine wp_seq (wp_setO (lc_six h n0 hn h4 wW sW wU sU hk _ _ _) rfl rfl ?_)
    refine wp_seq (wp_f (δ1 := [some (.b (hC h4)), some (.p (dR R)), some (.p (.int n)), (some (.p (.lst (iD (cl R n))))), (some (.p (dW W'))), (some (.p (.int (rk R (cl R n) n W')))), (some (.p (.int o))), (some (.p (dW U))), (some (.p (.int k))), (some (.p (dW (bentR W' k W'[k])))), (some (.p (.lst (sixB.map .bl)))), none, none, none, none, none, none, none, none]) (b_not (b := true) (b_e (e_fn (m_p (ev_o rfl) (m_p (e_own (o_lst (a_val rfl (a_val rfl (a_val rfl (a_val rfl (a_val rfl (a_val rfl a_nil)))))) rfl (by simp [lim]))) m_nil)) rfl (v__law_like (told_flags sixB (by decide)))))) (wp_next ?_))
    exact (tail_ok h n0 hn (m := m + 603) (by omega) (ok4.more (by omega)) _ _ _ _ _ _ _ (fun c z => by cases z)).mono fun f ⟨h', δ, x, y, z⟩ => ⟨h', δ, x, y, z.more (by omega)⟩
  obtain ⟨f, e, h', δ, rfl, hb, ok'⟩ := key
  exact ⟨h', runR_wp ⟨_, e, δ, .inl rfl, hb⟩, ok'⟩
end K15

namespace K15
open PySem PySem.Spec PyProof.Rows L2 DL
/-! lists of numbers as functions -/
abbrev Fu := Nat → Int
def fn (xs : List Int) : Fu := fun i => xs.getD i 0
def tab (L : Nat) (h : Fu) : List Int := (List.range L).map h
def upd (h : Fu) (j : Nat) (v : Int) : Fu := fun i => if i = j then v else h i
theorem tab_len (L : Nat) (h : Fu) : (tab L h).length = L := by unfold tab; simp
theorem tab_get {L : Nat} {h : Fu} {i : Nat} (hi : i < L) : (tab L h)[i]? = some (h i) := by unfold tab; simp [hi]
theorem tab_set (L : Nat) (h : Fu) (j : Nat) (v : Int) : (iD (tab L h)).set j (.int v) = iD (tab L (upd h j v)) := by
  apply List.ext_getElem?
  intro i
  unfold iD tab upd
  by_cases c : i < L
  · by_cases e : j = i
    · subst e; simp [c]
    · have e' : ¬ i = j := fun z => e z.symm
      simp [List.getElem?_set, c, e, e']
  · simp [List.getElem?_set, c]
theorem tab_congr {L : Nat} {h g : Fu} (e : ∀ i, i < L → h i = g i) : tab L h = tab L g := by
  unfold tab
  exact List.map_congr_left fun i hi => e i (List.mem_range.mp hi)
theorem tab_ix {L : Nat} {h : Fu} {i : Int} (h0 : 0 ≤ i) (hi : i < L) : gIx (.lst (iD (tab L h))) (.int i) = some (.int (h i.toNat)) := by
  rw [ixL h0 (by rw [tab_len]; exact hi)]
  have := tab_get (L := L) (h := h) (i := i.toNat) (by omega)
  unfold atZ
  rw [List.getD_eq_getElem?_getD, this]; rfl
theorem fn_tab (L : Nat) (h : Fu) (i : Nat) : fn (tab L h) i = if i < L then h i else 0 := by
  unfold fn
  by_cases c : i < L
  · rw [List.getD_eq_getElem?_getD, tab_get c, if_pos c]; rfl
  · rw [List.getD_eq_getElem?_getD, List.getElem?_eq_none (by rw [tab_len]; omega), if_neg c]; rfl
theorem tab_fn (xs : List Int) : tab xs.length (fn xs) = xs := by
  apply List.ext_getElem?
  intro i
  by_cases c : i < xs.length
  · rw [tab_get c]; unfold fn; rw [List.getD_eq_getElem?_getD, List.getElem?_eq_getElem c]; rfl
  · rw [List.getElem?_eq_none (by rw [tab_len]; omega), List.getElem?_eq_none (by omega)]
/-! sums -/
def su (k : Nat) (f : Fu) : Int := ((List.range k).map f).sum
theorem su_succ (k : Nat) (f : Fu) : su (k + 1) f = su k f + f k := by unfold su; rw [List.range_succ, List.map_append, List.sum_append]; simp
theorem su_zero (f : Fu) : su 0 f = 0 := rfl
theorem su_more {f : Fu} {k : Nat} (z : ∀ a, k ≤ a → f a = 0) : ∀ m, su (k + m) f = su k f
  | 0 => rfl
  | m + 1 => by rw [← Nat.add_assoc, su_succ, su_more z m, z (k + m) (by omega), Int.add_zero]
theorem su_to {f : Fu} {k m : Nat} (z : ∀ a, k ≤ a → f a = 0) (h : k ≤ m) : su m f = su k f := by
  obtain ⟨d, rfl⟩ := Nat.exists_eq_add_of_le h
  exact su_more z d
theorem su_congr {f g : Fu} : ∀ {k : Nat}, (∀ a, a < k → f a = g a) → su k f = su k g
  | 0, _ => rfl
  | k + 1, h => by rw [su_succ, su_succ, su_congr fun a ha => h a (by omega), h k (by omega)]
theorem su_all0 {f : Fu} {k : Nat} (z : ∀ a, a < k → f a = 0) : su k f = 0 := by
  induction k with
  | zero => rfl
  | succ k ih => rw [su_succ, ih fun a ha => z a (by omega), z k (by omega)]; rfl
/-! the product of two lists -/
def sh (g : Fu) (a i : Nat) : Int := if a ≤ i then g (i - a) else 0
def cv (N : Int) (f g : Fu) (k i : Nat) : Int := su k (fun a => f a * sh g a i) % N
theorem cv_succ (N : Int) (f g : Fu) (k i : Nat) : (cv N f g k i + f k * sh g k i) % N = cv N f g (k + 1) i := by
  unfold cv
  rw [su_succ, Int.emod_add_emod]
theorem cv_to {N : Int} {f g : Fu} {k m : Nat} (z : ∀ a, k ≤ a → f a = 0) (h : k ≤ m) (i : Nat) : cv N f g m i = cv N f g k i := by
  unfold cv
  rw [su_to (fun a ha => by rw [z a ha, Int.zero_mul]) h]
theorem cv_far {N : Int} {f g : Fu} {p q k i : Nat} (zf : ∀ a, p ≤ a → f a = 0) (zg : ∀ a, q ≤ a → g a = 0) (h : p + q ≤ i + 1) : cv N f g k i = 0 := by
  unfold cv
  rw [su_all0 fun a _ => ?_]
  · rfl
  · by_cases c : p ≤ a
    · rw [zf a c, Int.zero_mul]
    · unfold sh
      split
      · rw [zg (i - a) (by omega), Int.mul_zero]
      · rw [Int.mul_zero]
theorem cv_ok {N : Int} (hN : 0 < N) (f g : Fu) (k i : Nat) : 0 ≤ cv N f g k i ∧ cv N f g k i < N := ⟨Int.emod_nonneg _ (by omega), Int.emod_lt_of_pos _ hN⟩
/-! the rule -/
def In (N : Int) (h : Fu) : Prop := ∀ i, 0 ≤ h i ∧ h i < N
def rs (N : Int) (rl : Fu) (at_ : Nat) (h : Fu) : Fu := fun i => if i < at_ then (h i + h at_ * rl (at_ - 1 - i)) % N else h i
theorem rs_in {N : Int} (hN : 0 < N) (rl : Fu) (at_ : Nat) {h : Fu} (hh : In N h) : In N (rs N rl at_ h) := fun i => by
  unfold rs
  split
  · exact ⟨Int.emod_nonneg _ (by omega), Int.emod_lt_of_pos _ hN⟩
  · exact hh i
def rd (N : Int) (rl : Fu) (s : Nat) : Nat → Fu → Fu
  | 0, h => h
  | k + 1, h => rd N rl s k (rs N rl (s + k) h)
def rdP (N : Int) (rl : Fu) (s : Nat) : Nat → Fu → Fu
  | 0, h => h
  | k + 1, h => rdP N rl s k (upd (rs N rl (s + k) h) (s + k) 0)
theorem rd_like (N : Int) (rl : Fu) (s : Nat) : ∀ (k : Nat) (h g : Fu), (∀ i, i < s + k → h i = g i) → ∀ i, i < s → rd N rl s k h i = rdP N rl s k g i
  | 0, h, g, e, i, hi => e i hi
  | k + 1, h, g, e, i, hi => by
    refine rd_like N rl s k _ _ (fun j hj => ?_) i hi
    unfold upd rs
    rw [if_pos hj, if_neg (by omega), if_pos hj, e j (by omega), e (s + k) (by omega)]
theorem rs_zero {N : Int} {rl : Fu} {at_ : Nat} {h : Fu} (hh : In N h) (z : h at_ = 0) : rs N rl at_ h = h := by
  funext i
  unfold rs
  split
  · rw [z, Int.zero_mul, Int.add_zero, Int.emod_eq_of_lt (hh i).1 (hh i).2]
  · rfl
theorem rd_more {N : Int} {rl : Fu} {s k : Nat} {h : Fu} (hh : In N h) (z : ∀ i, s + k ≤ i → h i = 0) : ∀ m, rd N rl s (k + m) h = rd N rl s k h
  | 0 => rfl
  | m + 1 => by
    show rd N rl s (k + m) (rs N rl (s + (k + m)) h) = _
    rw [rs_zero hh (z _ (by omega)), rd_more hh z m]
theorem rd_to {N : Int} {rl : Fu} {s k m : Nat} {h : Fu} (hh : In N h) (z : ∀ i, s + k ≤ i → h i = 0) (l : k ≤ m) : rd N rl s m h = rd N rl s k h := by
  obtain ⟨d, rfl⟩ := Nat.exists_eq_add_of_le l
  exact rd_more hh z d
theorem mod_in (a b c N : Int) : (a + b * (c % N)) % N = (a + b * c) % N := by
  rw [Int.add_emod, Int.mul_emod, Int.emod_emod, ← Int.mul_emod, ← Int.add_emod]
theorem rs_mod (N : Int) (rl : Fu) (at_ : Nat) (h : Fu) : rs N (fun i => rl i % N) at_ h = rs N rl at_ h := by
  funext i
  unfold rs
  split
  · exact mod_in _ _ _ _
  · rfl
theorem rdP_mod (N : Int) (rl : Fu) (s : Nat) : ∀ (k : Nat) (h : Fu), rdP N (fun i => rl i % N) s k h = rdP N rl s k h
  | 0, h => rfl
  | k + 1, h => by
    show rdP N _ s k (upd (rs N _ (s + k) h) (s + k) 0) = rdP N rl s k (upd (rs N rl (s + k) h) (s + k) 0)
    rw [rs_mod, rdP_mod N rl s k]
/-- what a product leaves -/
def RES (N : Int) (rl : Fu) (s : Nat) (f g : Fu) : Fu := fun i => if i < s then rd N rl s 1000 (cv N f g 1000) i else 0
/-- the list of the law -/
theorem res_law {N : Int} (hN : 0 < N) (rl : Fu) {s p q : Nat} {f g : Fu} (zf : ∀ a, p ≤ a → f a = 0) (zg : ∀ a, q ≤ a → g a = 0) (hp : 1 ≤ p) (hq : 1 ≤ q) (hp' : p ≤ 100) (hq' : q ≤ 100) {L : Nat} (hL : p + q ≤ L + 1) (hL' : L ≤ 300) :
    ∀ i, i < s → i < L → rd N rl s (L - s) (cv N f g p) i = RES N rl s f g i := fun i hi hl => by
  unfold RES
  rw [if_pos hi]
  have e : cv N f g 1000 = cv N f g p := funext fun i => cv_to zf (by omega) i
  rw [e]
  exact (congrFun (rd_to (k := L - s) (m := 1000) (fun i => cv_ok hN f g p i) (fun i hi => cv_far zf zg (by omega)) (by omega)) i).symm
theorem res_far {N : Int} (hN : 0 < N) (rl : Fu) {s p q : Nat} {f g : Fu} (zf : ∀ a, p ≤ a → f a = 0) (zg : ∀ a, q ≤ a → g a = 0) (hp' : p ≤ 100) {L : Nat} (hL : p + q ≤ L + 1) {i : Nat} (hl : L ≤ i) : RES N rl s f g i = 0 := by
  unfold RES
  split
  · rename_i c
    have e : cv N f g 1000 = cv N f g p := funext fun i => cv_to zf (by omega) i
    rw [e, rd_to (k := 0) (fun i => cv_ok hN f g p i) (fun i hi => cv_far zf zg (by omega)) (by omega)]
    exact cv_far zf zg (by omega)
  · rfl
theorem fn_res {N : Int} (hN : 0 < N) (rl : Fu) {s p q : Nat} {f g : Fu} (zf : ∀ a, p ≤ a → f a = 0) (zg : ∀ a, q ≤ a → g a = 0) (hp : 1 ≤ p) (hq : 1 ≤ q) (hp' : p ≤ 100) (hq' : q ≤ 100) {L : Nat} (hL : p + q ≤ L + 1) (hL' : L ≤ 300) {h : Fu} (e : ∀ i, i < s → i < L → h i = rd N rl s (L - s) (cv N f g p) i) :
    fn (tab (min s L) h) = RES N rl s f g := by
  funext i
  rw [fn_tab]
  by_cases c : i < min s L
  · rw [if_pos c, e i (by omega) (by omega), res_law hN rl zf zg hp hq hp' hq' hL hL' i (by omega) (by omega)]
  · rw [if_neg c]
    by_cases d : i < s
    · rw [res_far hN rl zf zg hp' hL (by omega)]
    · unfold RES; rw [if_neg d]
theorem res_in {N : Int} (hN : 0 < N) (rl : Fu) (s : Nat) (f g : Fu) : In N (RES N rl s f g) := fun i => by
  unfold RES
  split
  · have : ∀ (k : Nat) (h : Fu), In N h → In N (rd N rl s k h) := fun k => by
      induction k with
      | zero => exact fun h hh => hh
      | succ k ih => exact fun h hh => ih _ (rs_in hN rl _ hh)
    exact this 1000 _ (fun i => cv_ok hN f g 1000 i) i
  · exact ⟨Int.le_refl _, hN⟩
end K15

namespace K15
open PySem PySem.Spec PyProof.Rows L2 DL
/-! loops by number -/
theorem wp_en {ix : IX} {tx : TX} {sa : SX} {δ δ1 : DEnv} {Q : Fl → Prop} (P : Nat → DEnv → Prop) {p : Nat} {f : Fu} (hi : ix δ = some (enumD 0 (iD (tab p f)), δ1)) (h0 : P 0 δ1) (hs : ∀ (i : Nat) δ, i < p → P i δ → ∃ δ2, tx (.tup [.int i, .int (f i)]) δ = some δ2 ∧ Wp sa δ2 fun f => ∃ δ3, (f = .nx δ3 ∨ f = .ct δ3) ∧ P (i + 1) δ3)
    (hq : ∀ δ', P p δ' → Q (.nx δ')) : Wp (sFor ix tx sa) δ Q := by
  have ln : (enumD 0 (iD (tab p f))).length = p := by rw [enumD_length, iD_len, tab_len]
  obtain ⟨δ', e, pp⟩ := loopS_ix (tx := tx) (body := sa) P (enumD 0 (iD (tab p f))) 0 δ1 h0 fun i d δ hd hp => by
    have hi : i < p := by have := (List.getElem?_eq_some_iff.mp hd).1; omega
    rw [enumD_get 0 (iD (tab p f)) i (.int (f i)) (by unfold iD; rw [List.getElem?_map, tab_get hi]; rfl)] at hd
    cases hd
    rw [Nat.zero_add] at hp ⊢
    obtain ⟨δ2, e1, f, e2, δ3, e3, p3⟩ := hs i δ hi hp
    exact ⟨δ2, f, δ3, e1, e2, e3, p3⟩
  rw [ln, Nat.zero_add] at pp
  exact ⟨_, by unfold sFor; rw [hi]; exact e, hq δ' pp⟩
theorem down_len : ∀ (n : Nat) (hi : Int), (downFrom hi n).length = n
  | 0, _ => rfl
  | n + 1, hi => by show (downFrom (hi - 1) n).length + 1 = _; rw [down_len n]
theorem down_get : ∀ (n : Nat) (hi : Int) (i : Nat), i < n → (downFrom hi n)[i]? = some (.int (hi - i))
  | 0, _, _, h => by omega
  | n + 1, hi, 0, h => by show some _ = _; simp
  | n + 1, hi, i + 1, h => by
    show (downFrom (hi - 1) n)[i]? = _
    rw [down_get n _ i (by omega)]
    congr 2; omega
theorem wp_down {ix : IX} {tx : TX} {sa : SX} {δ δ1 : DEnv} {Q : Fl → Prop} (P : Nat → DEnv → Prop) (lo : Int) (n : Nat) (hi : ix δ = some (downFrom lo n, δ1)) (h0 : P 0 δ1) (hs : ∀ (i : Nat) δ, i < n → P i δ → ∃ δ2, tx (.int (lo - i)) δ = some δ2 ∧ Wp sa δ2 fun f => ∃ δ3, (f = .nx δ3 ∨ f = .ct δ3) ∧ P (i + 1) δ3)
    (hq : ∀ δ', P n δ' → Q (.nx δ')) : Wp (sFor ix tx sa) δ Q := by
  obtain ⟨δ', e, pp⟩ := loopS_ix (tx := tx) (body := sa) P (downFrom lo n) 0 δ1 h0 fun i d δ hd hp => by
    have hi : i < n := by have := (List.getElem?_eq_some_iff.mp hd).1; rw [down_len] at this; exact this
    rw [down_get n lo i hi] at hd
    cases hd
    rw [Nat.zero_add] at hp ⊢
    obtain ⟨δ2, e1, f, e2, δ3, e3, p3⟩ := hs i δ hi hp
    exact ⟨δ2, f, δ3, e1, e2, e3, p3⟩
  rw [down_len, Nat.zero_add] at pp
  exact ⟨_, by unfold sFor; rw [hi]; exact e, hq δ' pp⟩
/-! turns as functions -/
def cin (N : Int) (h g : Fu) (a : Nat) (x : Int) (j : Nat) : Fu := fun i => if a ≤ i ∧ i < a + j then (h i + x * g (i - a)) % N else h i
theorem cin_zero (N : Int) (h g : Fu) (a : Nat) (x : Int) : cin N h g a x 0 = h := by
  funext i; unfold cin; rw [if_neg (by omega)]
theorem cin_at (N : Int) (h g : Fu) (a : Nat) (x : Int) (j : Nat) : cin N h g a x j (a + j) = h (a + j) := by unfold cin; rw [if_neg (by omega)]
theorem cin_succ (N : Int) (h g : Fu) (a : Nat) (x : Int) (j : Nat) : upd (cin N h g a x j) (a + j) ((h (a + j) + x * g j) % N) = cin N h g a x (j + 1) := by
  funext i
  unfold upd cin
  by_cases c : i = a + j
  · subst c; rw [if_pos rfl, if_pos (by omega), Nat.add_sub_cancel_left]
  · rw [if_neg c]
    by_cases d : a ≤ i ∧ i < a + j
    · rw [if_pos d, if_pos (by omega)]
    · rw [if_neg d, if_neg (by omega)]
theorem cin_all {N : Int} {h g : Fu} (hh : In N h) {a : Nat} {x : Int} {q : Nat} (z : ∀ b, q ≤ b → g b = 0) : cin N h g a x q = fun i => (h i + x * sh g a i) % N := by
  funext i
  unfold cin sh
  by_cases c : a ≤ i
  · by_cases d : i < a + q
    · rw [if_pos ⟨c, d⟩, if_pos c]
    · rw [if_neg (by omega), if_pos c, z _ (by omega), Int.mul_zero, Int.add_zero, Int.emod_eq_of_lt (hh i).1 (hh i).2]
  · rw [if_neg (by omega), if_neg c, Int.mul_zero, Int.add_zero, Int.emod_eq_of_lt (hh i).1 (hh i).2]
theorem cv_next {N : Int} (hN : 0 < N) {f g : Fu} {a q : Nat} (z : ∀ b, q ≤ b → g b = 0) : cin N (cv N f g a) g a (f a) q = cv N f g (a + 1) := by
  rw [cin_all (fun i => cv_ok hN f g a i) z]
  funext i
  exact cv_succ N f g a i
theorem cv_zero (N : Int) (f g : Fu) : cv N f g 0 = fun _ => 0 := by
  funext i; unfold cv; rw [su_zero, Int.zero_emod]
def inr (N : Int) (h rl : Fu) (a j : Nat) : Fu := fun i => if a ≤ i + j ∧ i < a then (h i + h a * rl (a - 1 - i)) % N else h i
theorem inr_zero (N : Int) (h rl : Fu) (a : Nat) : inr N h rl a 0 = h := by
  funext i; unfold inr; rw [if_neg (by omega)]
theorem inr_top (N : Int) (h rl : Fu) (a j : Nat) : inr N h rl a j a = h a := by unfold inr; rw [if_neg (by omega)]
theorem inr_at {N : Int} {h rl : Fu} {a j : Nat} (l : j < a) : inr N h rl a j (a - 1 - j) = h (a - 1 - j) := by unfold inr; rw [if_neg (by omega)]
theorem inr_succ {N : Int} {h rl : Fu} {a j : Nat} (l : j < a) : upd (inr N h rl a j) (a - 1 - j) ((h (a - 1 - j) + h a * rl j) % N) = inr N h rl a (j + 1) := by
  funext i
  unfold upd inr
  by_cases c : i = a - 1 - j
  · subst c; rw [if_pos rfl, if_pos (by omega), show a - 1 - (a - 1 - j) = j by omega]
  · rw [if_neg c]
    by_cases d : a ≤ i + j ∧ i < a
    · rw [if_pos d, if_pos (by omega)]
    · rw [if_neg d, if_neg (by omega)]
theorem inr_all {N : Int} {h rl : Fu} (hh : In N h) {a s : Nat} (z : ∀ b, s ≤ b → rl b = 0) : inr N h rl a s = rs N rl a h := by
  funext i
  unfold inr rs
  by_cases c : i < a
  · by_cases d : a ≤ i + s
    · rw [if_pos ⟨d, c⟩, if_pos c]
    · rw [if_neg (by omega), if_pos c, z _ (by omega), Int.mul_zero, Int.add_zero, Int.emod_eq_of_lt (hh i).1 (hh i).2]
  · rw [if_neg (by omega), if_neg c]
theorem sm {N a : Int} (hN : N ≤ 10000000) (h : 0 ≤ a ∧ a < N) : small a = true := small_le (k := 40) h.1 (by omega) (by decide)
theorem ixN_tab {L : Nat} {h : Fu} {i : Int} (h0 : 0 ≤ i) (hi : i < L) : ixN (iD (tab L h)).length i = some i.toNat := ixN_int h0 (by rw [iD_len, tab_len]; exact hi)
/-! the first loop -/
abbrev sPutC : SX := sPut 5 (hVal (eOp gAdd (hName 6) (hName 8))) (eOp gMod (hVal (eCall (g1 dInt) (aCons (hVal (eOp gAdd (hVal (eOp gIx (hName 5) (hVal (eOp gAdd (hName 6) (hName 8))))) (hVal (eOp gMul (hName 7) (hName 9))))) aNil))) (hName 3))
abbrev sConv : SX := sFor (iEnumD (eVar 0)) (txT 2 (txsCons (txN 6) (txsCons (txN 7) txsNil))) (sFor (iEnumD (eVar 1)) (txT 2 (txsCons (txN 8) (txsCons (txN 9) txsNil))) sPutC)
section
variable {N : Int} (hN : 0 < N) (hN' : N ≤ 10000000) {f g rl : Fu} {p q s L : Nat} (t : DEnv) (hf : In N f) (hg : In N g) (zg : ∀ b, q ≤ b → g b = 0)
include hN hN' hf hg zg
theorem wp_conv (hL : p + q ≤ L + 1) (a b c d : Option D) {Q : Fl → Prop} (hq : ∀ a b c d : Option D, Q (.nx ((some (.p (.lst (iD (tab p f))))) :: (some (.p (.lst (iD (tab q g))))) :: (some (.p (.lst (iD (tab s rl))))) :: (some (.p (.int N))) :: (some (.p (.int (s : Int)))) :: some (.o (.lst (iD (tab L (cv N f g p))))) :: (a.map .p) :: (b.map .p) :: (c.map .p) :: (d.map .p) :: t))) :
    Wp sConv ((some (.p (.lst (iD (tab p f))))) :: (some (.p (.lst (iD (tab q g))))) :: (some (.p (.lst (iD (tab s rl))))) :: (some (.p (.int N))) :: (some (.p (.int (s : Int)))) :: some (.o (.lst (iD (tab L (cv N f g 0))))) :: (a.map .p) :: (b.map .p) :: (c.map .p) :: (d.map .p) :: t) Q := by
  refine wp_en (fun k δ => ∃ a b c d : Option D, δ = ((some (.p (.lst (iD (tab p f))))) :: (some (.p (.lst (iD (tab q g))))) :: (some (.p (.lst (iD (tab s rl))))) :: (some (.p (.int N))) :: (some (.p (.int (s : Int)))) :: some (.o (.lst (iD (tab L (cv N f g k))))) :: (a.map .p) :: (b.map .p) :: (c.map .p) :: (d.map .p) :: t)) rfl ⟨a, b, c, d, rfl⟩ ?_ ?_
  · rintro k δ hk ⟨a, b, c, d, rfl⟩
    refine ⟨((some (.p (.lst (iD (tab p f))))) :: (some (.p (.lst (iD (tab q g))))) :: (some (.p (.lst (iD (tab s rl))))) :: (some (.p (.int N))) :: (some (.p (.int (s : Int)))) :: some (.o (.lst (iD (tab L (cv N f g k))))) :: (some (.p (.int k))) :: (some (.p (.int (f k)))) :: (c.map .p) :: (d.map .p) :: t), by cases a <;> cases b <;> rfl, ?_⟩
    refine wp_en (fun j δ => ∃ c d : Option D, δ = ((some (.p (.lst (iD (tab p f))))) :: (some (.p (.lst (iD (tab q g))))) :: (some (.p (.lst (iD (tab s rl))))) :: (some (.p (.int N))) :: (some (.p (.int (s : Int)))) :: some (.o (.lst (iD (tab L (cin N (cv N f g k) g k (f k) j))))) :: (some (.p (.int k))) :: (some (.p (.int (f k)))) :: (c.map .p) :: (d.map .p) :: t)) rfl ⟨c, d, by rw [cin_zero]⟩ ?_ ?_
    · rintro j δ hj ⟨c, d, rfl⟩
      refine ⟨((some (.p (.lst (iD (tab p f))))) :: (some (.p (.lst (iD (tab q g))))) :: (some (.p (.lst (iD (tab s rl))))) :: (some (.p (.int N))) :: (some (.p (.int (s : Int)))) :: some (.o (.lst (iD (tab L (cin N (cv N f g k) g k (f k) j))))) :: (some (.p (.int k))) :: (some (.p (.int (f k)))) :: (some (.p (.int j))) :: (some (.p (.int (g j)))) :: t), by cases c <;> cases d <;> rfl, ?_⟩
      have i1 := tab_ix (L := L) (h := cin N (cv N f g k) g k (f k) j) (i := (k : Int) + j) (by omega) (by omega)
      have mu := mulI (sm hN' (hf k)) (sm hN' (hg j))
      refine wp_put (e_op (h_val (e_call (a_val (e_op (h_val (e_op rfl (h_val (e_op rfl rfl rfl rfl (addI _ _))) rfl rfl i1)) (h_val (e_op rfl rfl rfl rfl mu)) rfl rfl (addI _ _)) a_nil) rfl (intI _))) rfl rfl rfl (modI hN)) rfl (h_val (e_op rfl rfl rfl rfl (addI _ _))) rfl rfl (ixN_tab (by omega) (by omega)) ⟨_, .inl rfl, some (.int j), some (.int (g j)), ?_⟩
      rw [tab_set, show ((k : Int) + j).toNat = k + j by omega, cin_at, cin_succ]
      rfl
    · rintro δ' ⟨c, d, rfl⟩
      refine ⟨_, .inl rfl, some (.int k), some (.int (f k)), c, d, ?_⟩
      rw [cv_next hN zg]; rfl
  · rintro δ' ⟨a, b, c, d, rfl⟩
    exact hq a b c d
end
end K15

namespace K15
open PySem PySem.Spec PyProof.Rows L2 DL
theorem len_tab (L : Nat) (h : Fu) : g1 dLen [.lst (iD (tab L h))] = some (.int L) := by
  show some (D.int ((iD (tab L h)).length : Int)) = _
  rw [iD_len, tab_len]
theorem rep0 {L : Nat} (hL : L ≤ 1000) : cRep (.lst [.int 0]) (.int (L : Int)) = some (.lst (iD (tab L fun _ => 0))) := by
  show (if decide ((0 : Int) ≤ (L : Int)) && decide ([D.int 0].length * (L : Int).toNat ≤ lim) && decide ((L : Int) ≤ 4000000) then some (Ct.lst (List.replicate (L : Int).toNat [D.int 0]).flatten) else none) = _
  rw [decide_eq_true (show (0 : Int) ≤ (L : Int) by omega), decide_eq_true (show [D.int 0].length * (L : Int).toNat ≤ lim by simp [lim]; omega), decide_eq_true (show (L : Int) ≤ 4000000 by omega)]
  simp [iD, tab, List.flatten_replicate_singleton, List.map_const']
theorem tab_take (s L : Nat) (h : Fu) : (iD (tab L h)).take s = iD (tab (min s L) h) := by
  unfold iD tab
  rw [← List.map_take, ← List.map_take, List.take_range]
theorem sl_tab (s L : Nat) (h : Fu) : gSl (.lst (iD (tab L h))) none (some (s : Int)) = some (.lst (iD (tab (min s L) h))) := by
  show some (D.lst (cutD (iD (tab L h)) none (some (s : Int)))) = _
  rw [cut_to, tab_take]
abbrev sRedL : SX := sFor (iRange rg3 (aCons (hVal (eOp DL.gSub (hVal (eCall (g1 dLen) (aCons (hName 5) aNil))) (hVal (eC (.int 1))))) (aCons (hVal (eOp DL.gSub (hName 4) (hVal (eC (.int 1))))) (aCons (hVal (eOp DL.gSub (hVal (eC (.int 0))) (hVal (eC (.int 1))))) aNil)))) (txN 6) (sFor (iEnumD (eVar 2)) (txT 2 (txsCons (txN 10) (txsCons (txN 11) txsNil))) (sPut 5 (hVal (eOp DL.gSub (hVal (eOp DL.gSub (hName 6) (hName 10))) (hVal (eC (.int 1))))) (eOp gMod (hVal (eCall (g1 dInt) (aCons (hVal (eOp gAdd (hVal (eOp gIx (hName 5) (hVal (eOp DL.gSub (hVal (eOp DL.gSub (hName 6) (hName 10))) (hVal (eC (.int 1))))))) (hVal (eOp gMul (hVal (eOp gIx (hName 5) (hName 6))) (hName 11))))) aNil))) (hName 3))))
abbrev sRedP : SX := sFor (iRange rg3 (aCons (hVal (eOp DL.gSub (hVal (eCall (g1 dLen) (aCons (hName 5) aNil))) (hVal (eC (.int 1))))) (aCons (hVal (eOp DL.gSub (hName 4) (hVal (eC (.int 1))))) (aCons (hVal (eNeg (eC (.int 1)))) aNil)))) (txN 6) (sSeq (sFor (iRange rg2 (aCons (hVal (eC (.int 1))) (aCons (hVal (eOp gAdd (hName 4) (hVal (eC (.int 1))))) aNil))) (txN 10) (sPut 5 (hVal (eOp DL.gSub (hName 6) (hName 10))) (eOp gMod (hVal (eCall (g1 dInt) (aCons (hVal (eOp gAdd (hVal (eOp gIx (hName 5) (hVal (eOp DL.gSub (hName 6) (hName 10))))) (hVal (eOp gMul (hVal (eOp gIx (hName 5) (hName 6))) (hVal (eOp gIx (hName 2) (hVal (eOp DL.gSub (hName 10) (hVal (eC (.int 1))))))))))) aNil))) (hName 3))))
  (sPut 5 (hName 6) (eC (.int 0))))
section
variable {N : Int} (hN : 0 < N) (hN' : N ≤ 10000000) {f g rl : Fu} {p q s L : Nat} (hr : In 10000000 rl) (zr : ∀ b, s ≤ b → rl b = 0) (s1 : 1 ≤ s) (s2 : s ≤ 60) (hL' : L ≤ 300)
include hN hN' hr zr s1 s2 hL'
theorem wp_redL {h : Fu} (hh : In N h) (a b c d x y : Option D) {Q : Fl → Prop} (hq : ∀ a b c d x y : Option D, Q (.nx [(some (.p (.lst (iD (tab p f))))), (some (.p (.lst (iD (tab q g))))), (some (.p (.lst (iD (tab s rl))))), (some (.p (.int N))), (some (.p (.int (s : Int)))), some (.o (.lst (iD (tab L (rd N rl s (L - s) h))))), (a.map .p), (b.map .p), (c.map .p), (d.map .p), (x.map .p), (y.map .p)])) :
    Wp sRedL [(some (.p (.lst (iD (tab p f))))), (some (.p (.lst (iD (tab q g))))), (some (.p (.lst (iD (tab s rl))))), (some (.p (.int N))), (some (.p (.int (s : Int)))), some (.o (.lst (iD (tab L h)))), (a.map .p), (b.map .p), (c.map .p), (d.map .p), (x.map .p), (y.map .p)] Q := by
  have ir : iRange rg3 (aCons (hVal (eOp DL.gSub (hVal (eCall (g1 dLen) (aCons (hName 5) aNil))) (hVal (eC (.int 1))))) (aCons (hVal (eOp DL.gSub (hName 4) (hVal (eC (.int 1))))) (aCons (hVal (eOp DL.gSub (hVal (eC (.int 0))) (hVal (eC (.int 1))))) aNil))) [(some (.p (.lst (iD (tab p f))))), (some (.p (.lst (iD (tab q g))))), (some (.p (.lst (iD (tab s rl))))), (some (.p (.int N))), (some (.p (.int (s : Int)))), some (.o (.lst (iD (tab L h)))), (a.map .p), (b.map .p), (c.map .p), (d.map .p), (x.map .p), (y.map .p)] = some (downFrom ((L : Int) - 1) (L - s), [(some (.p (.lst (iD (tab p f))))), (some (.p (.lst (iD (tab q g))))), (some (.p (.lst (iD (tab s rl))))), (some (.p (.int N))), (some (.p (.int (s : Int)))), some (.o (.lst (iD (tab L h)))), (a.map .p), (b.map .p), (c.map .p), (d.map .p), (x.map .p), (y.map .p)]) :=
    iR3 (a := (L : Int) - 1) (b := (s : Int) - 1) (h_val (e_op (h_val (e_call (a_nm rfl a_nil) rfl (len_tab L h))) rfl rfl rfl (subI _ _))) (h_val (e_op rfl rfl rfl rfl (subI _ _))) (h_val (e_op rfl rfl rfl rfl (subI _ _))) rfl rfl rfl (by omega) (by omega) (by omega) (by omega) (by omega)
  refine wp_down (fun i δ => ∃ (h' : Fu) (a x y : Option D), In N h' ∧ rd N rl s (L - s - i) h' = rd N rl s (L - s) h ∧ δ = [(some (.p (.lst (iD (tab p f))))), (some (.p (.lst (iD (tab q g))))), (some (.p (.lst (iD (tab s rl))))), (some (.p (.int N))), (some (.p (.int (s : Int)))), some (.o (.lst (iD (tab L h')))), (a.map .p), (b.map .p), (c.map .p), (d.map .p), (x.map .p), (y.map .p)]) _ _ ir ⟨h, a, x, y, hh, rfl, rfl⟩ ?_ ?_
  · rintro i δ hi ⟨h', a, x, y, hh', e, rfl⟩
    obtain ⟨A, hA, cA⟩ : ∃ A : Nat, A = L - 1 - i ∧ (L : Int) - 1 - i = A := ⟨L - 1 - i, rfl, by omega⟩
    rw [cA]
    refine ⟨[(some (.p (.lst (iD (tab p f))))), (some (.p (.lst (iD (tab q g))))), (some (.p (.lst (iD (tab s rl))))), (some (.p (.int N))), (some (.p (.int (s : Int)))), some (.o (.lst (iD (tab L h')))), (some (.p (.int (A : Int)))), (b.map .p), (c.map .p), (d.map .p), (x.map .p), (y.map .p)], by cases a <;> rfl, ?_⟩
    refine wp_en (fun j δ => ∃ x y : Option D, δ = [(some (.p (.lst (iD (tab p f))))), (some (.p (.lst (iD (tab q g))))), (some (.p (.lst (iD (tab s rl))))), (some (.p (.int N))), (some (.p (.int (s : Int)))), some (.o (.lst (iD (tab L (inr N h' rl A j))))), (some (.p (.int (A : Int)))), (b.map .p), (c.map .p), (d.map .p), (x.map .p), (y.map .p)]) rfl ⟨x, y, by rw [inr_zero]⟩ ?_ ?_
    · rintro j δ hj ⟨x, y, rfl⟩
      refine ⟨[(some (.p (.lst (iD (tab p f))))), (some (.p (.lst (iD (tab q g))))), (some (.p (.lst (iD (tab s rl))))), (some (.p (.int N))), (some (.p (.int (s : Int)))), some (.o (.lst (iD (tab L (inr N h' rl A j))))), (some (.p (.int (A : Int)))), (b.map .p), (c.map .p), (d.map .p), (some (.p (.int j))), (some (.p (.int (rl j))))], by cases x <;> cases y <;> rfl, ?_⟩
      have i1 := tab_ix (L := L) (h := inr N h' rl A j) (i := (A : Int) - j - 1) (by omega) (by omega)
      have i2 := tab_ix (L := L) (h := inr N h' rl A j) (i := (A : Int)) (by omega) (by omega)
      rw [Int.toNat_natCast, inr_top] at i2
      have mu := mulI (sm hN' (hh' A)) (sm (Int.le_refl _) (hr j))
      refine wp_put (e_op (h_val (e_call (a_val (e_op (h_val (e_op rfl (h_val (e_op (h_val (e_op rfl rfl rfl rfl (subI _ _))) rfl rfl rfl (subI _ _))) rfl rfl i1)) (h_val (e_op (h_val (e_op rfl rfl rfl rfl i2)) rfl rfl rfl mu)) rfl rfl (addI _ _)) a_nil) rfl (intI _))) rfl rfl rfl (modI hN)) rfl (h_val (e_op (h_val (e_op rfl rfl rfl rfl (subI _ _))) rfl rfl rfl (subI _ _))) rfl rfl (ixN_tab (by omega) (by omega)) ⟨_, .inl rfl, some (.int j), some (.int (rl j)), ?_⟩
      rw [tab_set, show ((A : Int) - j - 1).toNat = A - 1 - j by omega, inr_at (by omega), inr_succ (by omega)]
      rfl
    · rintro δ' ⟨x, y, rfl⟩
      rw [inr_all hh' zr]
      refine ⟨_, .inl rfl, rs N rl A h', some (.int A), x, y, rs_in hN rl A hh', ?_, rfl⟩
      rw [← e, show L - s - i = L - s - (i + 1) + 1 by omega]
      show _ = rd N rl s (L - s - (i + 1)) (rs N rl (s + (L - s - (i + 1))) h')
      rw [show s + (L - s - (i + 1)) = A by omega]
  · rintro δ' ⟨h', a, x, y, hh', e, rfl⟩
    rw [Nat.sub_self] at e
    have e : h' = rd N rl s (L - s) h := e
    rw [e]
    exact hq a b c d x y
theorem wp_redP {h : Fu} (hh : In N h) (a b c d x : Option D) {Q : Fl → Prop} (hq : ∀ a b c d x : Option D, Q (.nx [(some (.p (.lst (iD (tab p f))))), (some (.p (.lst (iD (tab q g))))), (some (.p (.lst (iD (tab s rl))))), (some (.p (.int N))), (some (.p (.int (s : Int)))), some (.o (.lst (iD (tab L (rdP N rl s (L - s) h))))), (a.map .p), (b.map .p), (c.map .p), (d.map .p), (x.map .p)])) :
    Wp sRedP [(some (.p (.lst (iD (tab p f))))), (some (.p (.lst (iD (tab q g))))), (some (.p (.lst (iD (tab s rl))))), (some (.p (.int N))), (some (.p (.int (s : Int)))), some (.o (.lst (iD (tab L h)))), (a.map .p), (b.map .p), (c.map .p), (d.map .p), (x.map .p)] Q := by
  have ir : iRange rg3 (aCons (hVal (eOp DL.gSub (hVal (eCall (g1 dLen) (aCons (hName 5) aNil))) (hVal (eC (.int 1))))) (aCons (hVal (eOp DL.gSub (hName 4) (hVal (eC (.int 1))))) (aCons (hVal (eNeg (eC (.int 1)))) aNil))) [(some (.p (.lst (iD (tab p f))))), (some (.p (.lst (iD (tab q g))))), (some (.p (.lst (iD (tab s rl))))), (some (.p (.int N))), (some (.p (.int (s : Int)))), some (.o (.lst (iD (tab L h)))), (a.map .p), (b.map .p), (c.map .p), (d.map .p), (x.map .p)] = some (downFrom ((L : Int) - 1) (L - s), [(some (.p (.lst (iD (tab p f))))), (some (.p (.lst (iD (tab q g))))), (some (.p (.lst (iD (tab s rl))))), (some (.p (.int N))), (some (.p (.int (s : Int)))), some (.o (.lst (iD (tab L h)))), (a.map .p), (b.map .p), (c.map .p), (d.map .p), (x.map .p)]) :=
    iR3 (a := (L : Int) - 1) (b := (s : Int) - 1) (h_val (e_op (h_val (e_call (a_nm rfl a_nil) rfl (len_tab L h))) rfl rfl rfl (subI _ _))) (h_val (e_op rfl rfl rfl rfl (subI _ _))) (h_val rfl) rfl rfl rfl (by omega) (by omega) (by omega) (by omega) (by omega)
  refine wp_down (fun i δ => ∃ (h' : Fu) (a x : Option D), In N h' ∧ rdP N rl s (L - s - i) h' = rdP N rl s (L - s) h ∧ δ = [(some (.p (.lst (iD (tab p f))))), (some (.p (.lst (iD (tab q g))))), (some (.p (.lst (iD (tab s rl))))), (some (.p (.int N))), (some (.p (.int (s : Int)))), some (.o (.lst (iD (tab L h')))), (a.map .p), (b.map .p), (c.map .p), (d.map .p), (x.map .p)]) _ _ ir ⟨h, a, x, hh, rfl, rfl⟩ ?_ ?_
  · rintro i δ hi ⟨h', a, x, hh', e, rfl⟩
    obtain ⟨A, hA, cA⟩ : ∃ A : Nat, A = L - 1 - i ∧ (L : Int) - 1 - i = A := ⟨L - 1 - i, rfl, by omega⟩
    rw [cA]
    refine ⟨[(some (.p (.lst (iD (tab p f))))), (some (.p (.lst (iD (tab q g))))), (some (.p (.lst (iD (tab s rl))))), (some (.p (.int N))), (some (.p (.int (s : Int)))), some (.o (.lst (iD (tab L h')))), (some (.p (.int (A : Int)))), (b.map .p), (c.map .p), (d.map .p), (x.map .p)], by cases a <;> rfl, ?_⟩
    have ir2 : iRange rg2 (aCons (hVal (eC (.int 1))) (aCons (hVal (eOp gAdd (hName 4) (hVal (eC (.int 1))))) aNil)) [(some (.p (.lst (iD (tab p f))))), (some (.p (.lst (iD (tab q g))))), (some (.p (.lst (iD (tab s rl))))), (some (.p (.int N))), (some (.p (.int (s : Int)))), some (.o (.lst (iD (tab L h')))), (some (.p (.int (A : Int)))), (b.map .p), (c.map .p), (d.map .p), (x.map .p)] = some (upFrom 1 s, [(some (.p (.lst (iD (tab p f))))), (some (.p (.lst (iD (tab q g))))), (some (.p (.lst (iD (tab s rl))))), (some (.p (.int N))), (some (.p (.int (s : Int)))), some (.o (.lst (iD (tab L h')))), (some (.p (.int (A : Int)))), (b.map .p), (c.map .p), (d.map .p), (x.map .p)]) := iR2 (a := 1) (b := (s : Int) + 1) rfl rfl rfl rfl (by omega) (by omega) (by omega) (by omega) (by omega)
    refine wp_seq (wp_up (fun j δ => ∃ x : Option D, δ = [(some (.p (.lst (iD (tab p f))))), (some (.p (.lst (iD (tab q g))))), (some (.p (.lst (iD (tab s rl))))), (some (.p (.int N))), (some (.p (.int (s : Int)))), some (.o (.lst (iD (tab L (inr N h' rl A j))))), (some (.p (.int (A : Int)))), (b.map .p), (c.map .p), (d.map .p), (x.map .p)]) 1 s ir2 ⟨x, by rw [inr_zero]⟩ ?_ ?_)
    · rintro j δ hj ⟨x, rfl⟩
      refine ⟨[(some (.p (.lst (iD (tab p f))))), (some (.p (.lst (iD (tab q g))))), (some (.p (.lst (iD (tab s rl))))), (some (.p (.int N))), (some (.p (.int (s : Int)))), some (.o (.lst (iD (tab L (inr N h' rl A j))))), (some (.p (.int (A : Int)))), (b.map .p), (c.map .p), (d.map .p), (some (.p (.int (1 + (j : Int)))))], by cases x <;> rfl, ?_⟩
      have i1 := tab_ix (L := L) (h := inr N h' rl A j) (i := (A : Int) - (1 + (j : Int))) (by omega) (by omega)
      have i2 := tab_ix (L := L) (h := inr N h' rl A j) (i := (A : Int)) (by omega) (by omega)
      have i3 := tab_ix (L := s) (h := rl) (i := 1 + (j : Int) - 1) (by omega) (by omega)
      rw [Int.toNat_natCast, inr_top] at i2
      rw [show (1 + (j : Int) - 1).toNat = j by omega] at i3
      have mu := mulI (sm hN' (hh' A)) (sm (Int.le_refl _) (hr j))
      refine wp_put (e_op (h_val (e_call (a_val (e_op (h_val (e_op rfl (h_val (e_op rfl rfl rfl rfl (subI _ _))) rfl rfl i1)) (h_val (e_op (h_val (e_op rfl rfl rfl rfl i2)) (h_val (e_op rfl (h_val (e_op rfl rfl rfl rfl (subI _ _))) rfl rfl i3)) rfl rfl mu)) rfl rfl (addI _ _)) a_nil) rfl (intI _))) rfl rfl rfl (modI hN)) rfl (h_val (e_op rfl rfl rfl rfl (subI _ _))) rfl rfl (ixN_tab (by omega) (by omega)) ⟨_, .inl rfl, some (.int (1 + (j : Int))), ?_⟩
      rw [tab_set, show ((A : Int) - (1 + (j : Int))).toNat = A - 1 - j by omega, inr_at (by omega), inr_succ (by omega)]
      rfl
    · rintro δ' ⟨x, rfl⟩
      rw [inr_all hh' zr]
      refine wp_put rfl rfl rfl rfl rfl (ixN_tab (i := (A : Int)) (by omega) (by omega)) ⟨_, .inl rfl, upd (rs N rl A h') A 0, some (.int A), x, fun i => ?_, ?_, ?_⟩
      · unfold upd
        split
        · exact ⟨Int.le_refl _, hN⟩
        · exact rs_in hN rl A hh' i
      · rw [← e, show L - s - i = L - s - (i + 1) + 1 by omega]
        show _ = rdP N rl s (L - s - (i + 1)) (upd (rs N rl (s + (L - s - (i + 1))) h') (s + (L - s - (i + 1))) 0)
        rw [show s + (L - s - (i + 1)) = A by omega]
      · rw [tab_set, Int.toNat_natCast]; rfl
  · rintro δ' ⟨h', a, x, hh', e, rfl⟩
    rw [Nat.sub_self] at e
    have e : h' = rdP N rl s (L - s) h := e
    rw [e]
    exact hq a b c d x
end
end K15

namespace K15
open PySem PySem.Spec PyProof.Rows L2 DL
theorem e_if_t {b : BX} {x y : EX} {δ δ1 : DEnv} {r : D × DEnv} (h : b δ = some (true, δ1)) (k : x δ1 = some r) : eIf b x y δ = some r := by simp [eIf, h, k]
theorem e_if_f {b : BX} {x y : EX} {δ δ1 : DEnv} {r : D × DEnv} (h : b δ = some (false, δ1)) (k : y δ1 = some r) : eIf b x y δ = some r := by simp [eIf, h, k]
section
variable {N : Int} (hN : 0 < N) (hN' : N ≤ 10000000) {f g rl : Fu} {p q s : Nat} (hr : In 10000000 rl) (zr : ∀ b, s ≤ b → rl b = 0) (s1 : 1 ≤ s) (s2 : s ≤ 60) (hf : In N f) (hg : In N g) (zf : ∀ b, p ≤ b → f b = 0) (zg : ∀ b, q ≤ b → g b = 0) (p1 : 1 ≤ p) (p2 : p ≤ 100) (q1 : 1 ≤ q) (q2 : q ≤ 100)
include hN hN' hr zr s1 s2 hf hg zf zg p1 p2 q1 q2
theorem led_tab {L : Nat} (hL : p + q = L + 1) : F__law_led [.lst (iD (tab p f)), .lst (iD (tab q g)), .lst (iD (tab s rl)), .int N] = some (.lst (iD (tab (min s L) (rd N rl s (L - s) (cv N f g p))))) := by
  refine runV_wp ?_
  show Wp _ [(some (.p (.lst (iD (tab p f))))), (some (.p (.lst (iD (tab q g))))), (some (.p (.lst (iD (tab s rl))))), (some (.p (.int N))), none, none, none, none, none, none, none, none] _
  have rp := rep0 (L := L) (by omega)
  rw [show (L : Int) = (p : Int) + q - 1 by omega, ← cv_zero N f g] at rp
  refine wp_seq (wp_par (xs := [.p (.int s), .o (.lst (iD (tab L (cv N f g 0))))]) (δ1 := [(some (.p (.lst (iD (tab p f))))), (some (.p (.lst (iD (tab q g))))), (some (.p (.lst (iD (tab s rl))))), (some (.p (.int N))), none, none, none, none, none, none, none, none]) rfl (m_p (e_call (a_nm rfl a_nil) rfl (len_tab s rl)) (m_o (o_op (h_val (e_own (o_lst (a_val rfl a_nil) rfl (by simp [lim])))) (h_val (e_op (h_val (e_op (h_val (e_call (a_nm rfl a_nil) rfl (len_tab p f))) (h_val (e_call (a_nm rfl a_nil) rfl (len_tab q g))) rfl rfl (addI _ _))) rfl rfl rfl (subI _ _))) rfl rfl rp) m_nil)) rfl ?_)
  refine wp_seq (wp_conv hN hN' [none, none] hf hg zg (by omega) none none none none fun a b c d => ?_)
  refine wp_seq (wp_redL hN hN' hr zr s1 s2 (by omega) (fun i => cv_ok hN f g p i) a b c d none none fun a b c d x y => ?_)
  exact wp_ret (e_sl rfl rfl (p_so (ev_p rfl)) rfl (sl_tab s L _)) (.inl ⟨_, rfl⟩)
theorem rest_tab {L : Nat} (hL : p + q = L) : F_rest_product [.lst (iD (tab p f)), .lst (iD (tab q g)), .lst (iD (tab s rl)), .int N] = some (.lst (iD (tab (min s L) (rdP N rl s (L - s) (cv N f g p))))) := by
  refine runV_wp ?_
  show Wp _ [(some (.p (.lst (iD (tab p f))))), (some (.p (.lst (iD (tab q g))))), (some (.p (.lst (iD (tab s rl))))), (some (.p (.int N))), none, none, none, none, none, none, none] _
  have rp := rep0 (L := L) (by omega)
  rw [show (L : Int) = (p : Int) + q by omega, ← cv_zero N f g] at rp
  refine wp_seq (wp_set (e_call (a_nm rfl a_nil) rfl (len_tab s rl)) rfl rfl ?_)
  refine wp_seq (wp_setO (o_op (h_val (e_own (o_lst (a_val rfl a_nil) rfl (by simp [lim])))) (h_val (e_op (h_val (e_call (a_nm rfl a_nil) rfl (len_tab p f))) (h_val (e_call (a_nm rfl a_nil) rfl (len_tab q g))) rfl rfl (addI _ _))) rfl rfl rp) rfl rfl ?_)
  refine wp_seq (wp_conv hN hN' [none] hf hg zg (by omega) none none none none fun a b c d => ?_)
  refine wp_seq (wp_redP hN hN' hr zr s1 s2 (by omega) (fun i => cv_ok hN f g p i) a b c d none fun a b c d x => ?_)
  by_cases c : (s : Int) < L
  · refine wp_ret (e_if_t (b_e (e_op (h_val (e_call (a_nm rfl a_nil) rfl (len_tab L _))) rfl rfl rfl ((gtI _ _).trans (by rw [decide_eq_true c])))) (e_sl rfl rfl (p_so (ev_p rfl)) rfl (sl_tab s L _))) (.inl ⟨_, rfl⟩)
  · rw [show min s L = L by omega]
    exact wp_ret (e_if_f (b_e (e_op (h_val (e_call (a_nm rfl a_nil) rfl (len_tab L _))) rfl rfl rfl ((gtI _ _).trans (by rw [decide_eq_false c])))) (ev_o rfl)) (.inl ⟨_, rfl⟩)
end
structure GOk (N : Int) (xs : List Int) : Prop where
  inn : In N (fn xs)
  l1 : 1 ≤ xs.length
  l2 : xs.length ≤ 100
theorem fn_far (xs : List Int) : ∀ b, xs.length ≤ b → fn xs b = 0 := fun b h => by
  unfold fn; rw [List.getD_eq_getElem?_getD, List.getElem?_eq_none h]; rfl
section
variable {N : Int} (hN : 0 < N) (hN' : N ≤ 10000000) {rl : Fu} {s : Nat} (hr : In 10000000 rl) (zr : ∀ b, s ≤ b → rl b = 0) (s1 : 1 ≤ s) (s2 : s ≤ 60) {xs ys : List Int} (hx : GOk N xs) (hy : GOk N ys)
include hN hN' hr zr s1 s2 hx hy
theorem v__law_led : ∃ r, F__law_led [.lst (iD xs), .lst (iD ys), .lst (iD (tab s rl)), .int N] = some (.lst (iD r)) ∧ GOk N r ∧ r.length ≤ s ∧ fn r = RES N rl s (fn xs) (fn ys) := by
  have e := led_tab hN hN' hr zr s1 s2 hx.inn hy.inn (fn_far xs) (fn_far ys) hx.l1 hx.l2 hy.l1 hy.l2 (L := xs.length + ys.length - 1) (by have := hx.l1; omega)
  rw [tab_fn, tab_fn] at e
  have := hx.l1; have := hy.l1; have := hx.l2; have := hy.l2
  have r := fn_res hN rl (s := s) (fn_far xs) (fn_far ys) hx.l1 hy.l1 hx.l2 hy.l2 (L := xs.length + ys.length - 1) (by omega) (by omega) (fun i _ _ => rfl)
  refine ⟨_, e, ⟨?_, ?_, ?_⟩, ?_, r⟩
  · rw [r]; exact res_in hN rl s _ _
  · rw [tab_len]; omega
  · rw [tab_len]; omega
  · rw [tab_len]; omega
theorem v_rest_product : ∃ r, F_rest_product [.lst (iD xs), .lst (iD ys), .lst (iD (tab s fun i => rl i % N)), .int N] = some (.lst (iD r)) ∧ GOk N r ∧ r.length ≤ s ∧ fn r = RES N rl s (fn xs) (fn ys) := by
  have hr' : In 10000000 (fun i => rl i % N) := fun i => ⟨Int.emod_nonneg _ (by omega), by have := Int.emod_lt_of_pos (rl i) hN; show rl i % N < _; omega⟩
  have e := rest_tab hN hN' hr' (s := s) (fun b hb => by show rl b % N = 0; rw [zr b hb, Int.zero_emod]) s1 s2 hx.inn hy.inn (fn_far xs) (fn_far ys) hx.l1 hx.l2 hy.l1 hy.l2 (L := xs.length + ys.length) rfl
  rw [tab_fn, tab_fn, rdP_mod] at e
  have := hx.l1; have := hy.l1; have := hx.l2; have := hy.l2
  have r := fn_res hN rl (s := s) (fn_far xs) (fn_far ys) hx.l1 hy.l1 hx.l2 hy.l2 (L := xs.length + ys.length) (by omega) (by omega) (h := rdP N rl s (xs.length + ys.length - s) (cv N (fn xs) (fn ys) xs.length)) (fun i hi _ => (rd_like N rl s _ _ _ (fun _ _ => rfl) i hi).symm)
  refine ⟨_, e, ⟨?_, ?_, ?_⟩, ?_, r⟩
  · rw [r]; exact res_in hN rl s _ _
  · rw [tab_len]; omega
  · rw [tab_len]; omega
  · rw [tab_len]; omega
end
/-! the turns of halving -/
def pw (N : Int) (rl : Fu) (s : Nat) : Nat → Int → Fu → Fu → Fu
  | 0, _, f, _ => f
  | k + 1, l, f, g => if 0 < l then pw N rl s k (l / 2) (if l % 2 = 1 then RES N rl s f g else f) (RES N rl s g g) else f
theorem pw_zero (N : Int) (rl : Fu) (s : Nat) (k : Nat) {l : Int} (h : ¬ 0 < l) (f g : Fu) : pw N rl s k l f g = f := by
  cases k with
  | zero => rfl
  | succ k => exact if_neg h
theorem ev_s {δ : DEnv} {i : Nat} {e : Sl} {c : Ct} (he : e = .o c ∨ e = .p c.d) (h : δ[i]? = some (some e)) : eVar i δ = some (c.d, δ.set i (some (.p c.d))) := by
  rcases he with rfl | rfl
  · exact ev_o h
  · rw [ev_p h]
    congr 2
    apply List.ext_getElem?
    intro j
    by_cases c : i = j
    · subst c
      have := (List.getElem?_eq_some_iff.mp h).1
      rw [h, List.getElem?_set_self this]
    · rw [List.getElem?_set_ne c]
end K15

namespace K15
open PySem PySem.Spec PyProof.Rows L2 DL
def lk (R : Rods) : Fu := R.foldl (fun h q => upd h (q.1 - 1).toNat q.2) (fun _ => 0)
theorem lk_snoc (P : Rods) (x : Int × Int) : lk (P ++ [x]) = upd (lk P) (x.1 - 1).toNat x.2 := by unfold lk; rw [List.foldl_append]; rfl
theorem lk_mod (P : Rods) (x : Int × Int) (N : Int) : upd (fun i => lk P i % N) (x.1 - 1).toNat (x.2 % N) = fun i => lk (P ++ [x]) i % N := by
  rw [lk_snoc]; funext i; unfold upd; split <;> rfl
theorem lk_ok {R : Rods} {s : Nat} (hl : ∀ q ∈ R, 1 ≤ q.1 ∧ q.1 ≤ s ∧ 0 ≤ q.2 ∧ q.2 ≤ 9) : In 10000000 (lk R) ∧ ∀ b, s ≤ b → lk R b = 0 := by
  have key : ∀ (R : Rods) (h : Fu), (∀ q ∈ R, 1 ≤ q.1 ∧ q.1 ≤ s ∧ 0 ≤ q.2 ∧ q.2 ≤ 9) → (In 10000000 h ∧ ∀ b, s ≤ b → h b = 0) → In 10000000 (R.foldl (fun h q => upd h (q.1 - 1).toNat q.2) h) ∧ ∀ b, s ≤ b → R.foldl (fun h q => upd h (q.1 - 1).toNat q.2) h b = 0 := by
    intro R
    induction R with
    | nil => exact fun h _ z => z
    | cons q R ih =>
      intro h hl z
      have l := hl q List.mem_cons_self
      refine ih _ (fun r hr => hl r (List.mem_cons_of_mem _ hr)) ⟨fun i => ?_, fun b hb => ?_⟩
      · show 0 ≤ upd h (q.1 - 1).toNat q.2 i ∧ upd h (q.1 - 1).toNat q.2 i < 10000000
        unfold upd
        split
        · omega
        · exact z.1 i
      · show upd h (q.1 - 1).toNat q.2 b = 0
        unfold upd
        rw [if_neg (by omega)]
        exact z.2 b hb
  exact key R _ hl ⟨fun i => by show (0 : Int) ≤ 0 ∧ (0 : Int) < 10000000; omega, fun _ _ => rfl⟩
theorem last_of {R : Rods} (h : V R) : ∃ (P : Rods) (z : Int × Int), R = P ++ [z] ∧ ∀ q ∈ R, q.1 ≤ z.1 := by
  refine ⟨R.dropLast, R.getLast h.ne, (List.dropLast_concat_getLast h.ne).symm, fun q hq => ?_⟩
  have i := h.inc
  rw [← List.dropLast_concat_getLast h.ne] at i hq
  rcases List.mem_append.mp hq with m | m
  · have := (List.pairwise_append.mp i).2.2 q m (R.getLast h.ne) (by simp)
    omega
  · simp at m; rw [m]; exact Int.le_refl _
theorem enum_tab (p : Nat) (f : Fu) : enumD 0 (iD (tab p f)) = (List.range p).map fun (a : Nat) => D.tup [.int a, .int (f a)] := by
  apply List.ext_getElem?
  intro i
  by_cases c : i < p
  · rw [enumD_get 0 (iD (tab p f)) i (.int (f i)) (by unfold iD; rw [List.getElem?_map, tab_get c]; rfl)]
    simp [c]
  · rw [List.getElem?_eq_none (by rw [enumD_length, iD_len, tab_len]; omega), List.getElem?_eq_none (by simp; omega)]
def ans (N : Int) (R : Rods) (s : Nat) (f : Fu) : Int := su (s + 1) (fun a => f a * atZ (cl R s) a) % N
theorem su_ans (R : Rods) (s : Nat) (xs : List Int) (hl : xs.length ≤ s + 1) : su xs.length (fun a => fn xs a * atZ (cl R s) a) = su (s + 1) (fun a => fn xs a * atZ (cl R s) a) := (su_to (fun a ha => by rw [fn_far xs a ha, Int.zero_mul]) hl).symm
/-! the law's -/
abbrev lcMax : OX := oLc (iSeq (eVar 0)) (txN 4) bYes (eOp gIx (hName 4) (hVal (eC (.int 0)))) [4]
abbrev lcAnsL : OX := oLc (iEnumD (eVar 9)) (txT 2 (txsCons (txN 12) (txsCons (txN 13) txsNil))) bYes (eOp gMul (hName 13) (hVal (eOp gIx (hName 8) (hName 12)))) [12, 13]
abbrev sOddL : SX := sIf (bE (eOp gEq (hVal (eOp gMod (hVal (eCall (g1 dInt) (aCons (hName 11) aNil))) (hVal (eC (.int 2))))) (hVal (eC (.int 1))))) (sSet 9 (eFn F__law_led (mP (eVar 9) (mP (eVar 10) (mP (eVar 5) (mP (eVar 2) mNil)))))) sNext
theorem fn1_in {N : Int} (h : 1 < N) : GOk N [1] := ⟨fun i => by
  unfold fn
  cases i with
  | zero => show (0 : Int) ≤ 1 ∧ (1 : Int) < N; omega
  | succ i => show (0 : Int) ≤ 0 ∧ (0 : Int) < N; omega, by decide, by decide⟩
theorem fn01_in {N : Int} (h : 1 < N) : GOk N [0, 1] := ⟨fun i => by
  unfold fn
  cases i with
  | zero => show (0 : Int) ≤ 0 ∧ (0 : Int) < N; omega
  | succ i => cases i with
    | zero => show (0 : Int) ≤ 1 ∧ (1 : Int) < N; omega
    | succ i => show (0 : Int) ≤ 0 ∧ (0 : Int) < N; omega, by decide, by decide⟩
section
variable {R : Rods} (h : V R) {l N : Int} (l0 : 0 ≤ l) (l1 : l < 2 ^ 40) (N1 : 1 < N) (N2 : N ≤ 10000000)
include h N1 N2
theorem v__law_great (l0 : 0 ≤ l) (l1 : l < 2 ^ 40) {P : Rods} {z : Int × Int} (e : R = P ++ [z]) (m : ∀ q ∈ R, q.1 ≤ z.1) : F__law_great [dR R, .int l, .int N] = some (.int (ans N R z.1.toNat (pw N (lk R) z.1.toNat 40 l (fn [1]) (fn [0, 1])))) := by
  have lz := h.lo z (by rw [e]; simp)
  obtain ⟨s, hs⟩ : ∃ s : Nat, z.1 = s := ⟨z.1.toNat, by omega⟩
  rw [hs] at m lz ⊢
  rw [Int.toNat_natCast]
  have lo : ∀ q ∈ R, 1 ≤ q.1 ∧ q.1 ≤ (s : Int) ∧ 0 ≤ q.2 ∧ q.2 ≤ 9 := fun q hq => by have := h.lo q hq; have := m q hq; omega
  obtain ⟨hr, zr⟩ := lk_ok lo
  refine runV_wp ?_
  show Wp _ [(some (.p (dR R))), (some (.p (.int l))), (some (.p (.int N))), none, none, none, none, none, none, none, none, none, none, none] _
  have mx : lcMax [(some (.p (dR R))), (some (.p (.int l))), (some (.p (.int N))), none, none, none, none, none, none, none, none, none, none, none] = some (.lst (iD (R.map (·.1))), [(some (.p (dR R))), (some (.p (.int l))), (some (.p (.int N))), none, none, none, none, none, none, none, none, none, none, none]) := by
    rw [iD_map, ← fmap_some (fun p : Int × Int => D.int p.1)]
    exact oLc_pure tupI _ R rfl rfl rfl rfl (fun p hp => ⟨[(some (.p (dR R))), (some (.p (.int l))), (some (.p (.int N))), none, (some (.p (tupI p))), none, none, none, none, none, none, none, none, none], rfl, .inr ⟨_, [(some (.p (dR R))), (some (.p (.int l))), (some (.p (.int N))), none, (some (.p (tupI p))), none, none, none, none, none, none, none, none, none], [(some (.p (dR R))), (some (.p (.int l))), (some (.p (.int N))), none, (some (.p (tupI p))), none, none, none, none, none, none, none, none, none], rfl, rfl, e_op rfl rfl rfl rfl (t0 p), rfl⟩⟩) (by have := h.len; simp [lim]; omega)
  have mv : g1 dMaxL [.lst (iD (R.map (·.1)))] = some (.int s) := by
    have mz : z.1 ∈ R.map (·.1) := List.mem_map_of_mem (by rw [e]; simp)
    show (asInts ((R.map (·.1)).map D.int)).bind _ = _
    rw [asInts_map]
    show (maxI (R.map (·.1))).map D.int = _
    cases c : R.map (·.1) with
    | nil => rw [c] at mz; cases mz
    | cons x r =>
      rw [c] at mz
      obtain ⟨a, b⟩ := foldl_max r x
      have b1 := b z.1 mz
      rw [← c] at a
      obtain ⟨q, hq, e1⟩ := List.mem_map.mp a
      have := m q hq
      show some (D.int (r.foldl max x)) = _
      congr 2; omega
  refine wp_seq (wp_set (d := .int s) (δ1 := [(some (.p (dR R))), (some (.p (.int l))), (some (.p (.int N))), none, none, none, none, none, none, none, none, none, none, none]) (e_call (a_val (e_own mx) a_nil) rfl mv) rfl rfl ?_)
  refine wp_seq (wp_setO (o_op (h_val (e_own (o_lst (a_val rfl a_nil) rfl (by simp [lim])))) rfl rfl rfl (rep0 (L := s) (by omega))) rfl rfl ?_)
  refine wp_seq (wp_for tupI (fun p δ => ∃ x6 x7 : Option D, δ = [(some (.p (dR R))), (some (.p (.int l))), (some (.p (.int N))), (some (.p (.int s))), none, (some (.o (.lst (iD (tab s (lk p)))))), (x6.map .p), (x7.map .p), none, none, none, none, none, none]) R rfl ⟨none, none, rfl⟩ ?_ ?_)
  · rintro p x q δ e ⟨x6, x7, rfl⟩
    have lx := lo x (by rw [e]; simp)
    refine ⟨[(some (.p (dR R))), (some (.p (.int l))), (some (.p (.int N))), (some (.p (.int s))), none, (some (.o (.lst (iD (tab s (lk p)))))), (some (.p (.int x.1))), (some (.p (.int x.2))), none, none, none, none, none, none], by cases x6 <;> cases x7 <;> rfl, ?_⟩
    refine wp_put (ev_p rfl) rfl (h_val (e_op rfl rfl rfl rfl (subI _ _))) rfl rfl (ixN_tab (by omega) (by omega)) ⟨_, .inl rfl, some (.int x.1), some (.int x.2), ?_⟩
    rw [tab_set, lk_snoc]; rfl
  rintro δ' ⟨x6, x7, rfl⟩
  refine wp_seq (wp_set (e_fn (m_p (ev_p rfl) (m_p (ev_p rfl) m_nil)) rfl (v__law_counts h (n := s) (by omega))) rfl rfl ?_)
  refine wp_seq (wp_par (xs := [.o (.lst (iD [1])), .o (.lst (iD [0, 1])), .p (.int l)]) (δ1 := [(some (.p (dR R))), (some (.p (.int l))), (some (.p (.int N))), (some (.p (.int s))), none, (some (.o (.lst (iD (tab s (lk R)))))), (x6.map .p), (x7.map .p), (some (.p (.lst (iD (cl R s))))), none, none, none, none, none]) rfl (m_o (o_lst (a_val rfl a_nil) rfl (by simp [lim, iD])) (m_o (o_lst (a_val rfl (a_val rfl a_nil)) rfl (by simp [lim, iD])) (m_p (ev_p rfl) m_nil))) rfl ?_)
  refine wp_seq (wp_while (P := fun k δ => ∃ (xs ys : List Int) (left : Int) (e5 e9 e10 : Sl), k ≤ 40 ∧ 0 ≤ left ∧ left < 2 ^ k ∧ GOk N xs ∧ GOk N ys ∧ xs.length ≤ s + 1 ∧ (e5 = .o (.lst (iD (tab s (lk R)))) ∨ e5 = .p (.lst (iD (tab s (lk R))))) ∧ (e9 = .o (.lst (iD xs)) ∨ e9 = .p (.lst (iD xs))) ∧ (e10 = .o (.lst (iD ys)) ∨ e10 = .p (.lst (iD ys)))
      ∧ pw N (lk R) s k left (fn xs) (fn ys) = pw N (lk R) s 40 l (fn [1]) (fn [0, 1]) ∧ δ = [(some (.p (dR R))), (some (.p (.int l))), (some (.p (.int N))), (some (.p (.int s))), none, (some e5), (x6.map .p), (x7.map .p), (some (.p (.lst (iD (cl R s))))), (some e9), (some e10), (some (.p (.int left))), none, none]) 300 40 (by omega) ⟨[1], [0, 1], l, _, _, _, by omega, l0, l1, fn1_in N1, fn01_in N1, by simp, .inl rfl, .inl rfl, .inl rfl, rfl, rfl⟩ ?_)
  rintro k δ ⟨xs, ys, left, e5, e9, e10, k40, f0, f1, gx, gy, lx, h5, h9, h10, ep, rfl⟩
  refine ⟨decide (0 < left), [(some (.p (dR R))), (some (.p (.int l))), (some (.p (.int N))), (some (.p (.int s))), none, (some e5), (x6.map .p), (x7.map .p), (some (.p (.lst (iD (cl R s))))), (some e9), (some e10), (some (.p (.int left))), none, none], rfl, fun c => ?_, fun c => ?_⟩
  · have c := of_decide_eq_false c
    rw [pw_zero N _ _ _ c] at ep
    have lc : lcAnsL [(some (.p (dR R))), (some (.p (.int l))), (some (.p (.int N))), (some (.p (.int s))), none, (some e5), (x6.map .p), (x7.map .p), (some (.p (.lst (iD (cl R s))))), (some e9), (some e10), (some (.p (.int left))), none, none] = some (.lst (iD ((List.range xs.length).map fun (a : Nat) => fn xs a * atZ (cl R s) a)), [(some (.p (dR R))), (some (.p (.int l))), (some (.p (.int N))), (some (.p (.int s))), none, (some e5), (x6.map .p), (x7.map .p), (some (.p (.lst (iD (cl R s))))), (some (.p (.lst (iD xs)))), (some e10), (some (.p (.int left))), none, none]) := by
      rw [iD_map, ← fmap_some (fun a : Nat => D.int (fn xs a * atZ (cl R s) a))]
      refine oLc_pure (fun a : Nat => D.tup [.int a, .int (fn xs a)]) _ (List.range xs.length) ?_ rfl rfl rfl (fun a ha => ⟨[(some (.p (dR R))), (some (.p (.int l))), (some (.p (.int N))), (some (.p (.int s))), none, some e5, x6.map .p, x7.map .p, (some (.p (.lst (iD (cl R s))))), (some (.p (.lst (iD xs)))), some e10, (some (.p (.int left))), (some (.p (.int a))), (some (.p (.int (fn xs a))))], rfl, .inr ⟨_, [(some (.p (dR R))), (some (.p (.int l))), (some (.p (.int N))), (some (.p (.int s))), none, some e5, x6.map .p, x7.map .p, (some (.p (.lst (iD (cl R s))))), (some (.p (.lst (iD xs)))), some e10, (some (.p (.int left))), (some (.p (.int a))), (some (.p (.int (fn xs a))))], [(some (.p (dR R))), (some (.p (.int l))), (some (.p (.int N))), (some (.p (.int s))), none, some e5, x6.map .p, x7.map .p, (some (.p (.lst (iD (cl R s))))), (some (.p (.lst (iD xs)))), some e10, (some (.p (.int left))), (some (.p (.int a))), (some (.p (.int (fn xs a))))], rfl, rfl, ?_, rfl⟩⟩) (by rw [List.length_range]; simp [lim]; omega)
      · unfold iEnumD
        rw [ev_s h9 rfl]
        have := enum_tab xs.length (fn xs)
        rw [tab_fn] at this
        show some (enumD 0 (iD xs), _) = _
        rw [this]; rfl
      · have ha := List.mem_range.mp ha
        have y := atZ_row h (n := s) (by omega) (i := a) (by omega) (by omega)
        obtain ⟨_, y2, _⟩ := atZ_cl h (n := s) (by omega) (i := a) (by omega) (by omega)
        exact e_op rfl (h_val (e_op rfl rfl rfl rfl y)) rfl rfl (mulI (sm N2 (gx.inn a)) y2)
    have v : su xs.length (fun a => fn xs a * atZ (cl R s) a) % N = ans N R s (pw N (lk R) s 40 l (fn [1]) (fn [0, 1])) := by
      unfold ans; rw [← ep, su_ans R s xs lx]
    rw [← v]
    exact wp_ret (e_op (h_val (e_call (a_val (e_call (a_val (e_own lc) a_nil) rfl (sumI _)) a_nil) rfl (intI _))) rfl rfl rfl (modI (by omega))) (.inl ⟨_, rfl⟩)
  · have c := of_decide_eq_true c
    obtain ⟨k, rfl⟩ : ∃ j, k = j + 1 := ⟨k - 1, by
      cases k with
      | zero => have : left < 1 := f1; omega
      | succ k => rfl⟩
    have f2 : left / 2 < 2 ^ k := by rw [Int.pow_succ] at f1; omega
    rw [pw, if_pos c] at ep
    have key : Wp sOddL [(some (.p (dR R))), (some (.p (.int l))), (some (.p (.int N))), (some (.p (.int s))), none, (some e5), (x6.map .p), (x7.map .p), (some (.p (.lst (iD (cl R s))))), (some e9), (some e10), (some (.p (.int left))), none, none] fun fl => ∃ (xs' : List Int) (e5 e9 e10 : Sl), fl = .nx [(some (.p (dR R))), (some (.p (.int l))), (some (.p (.int N))), (some (.p (.int s))), none, (some e5), (x6.map .p), (x7.map .p), (some (.p (.lst (iD (cl R s))))), (some e9), (some e10), (some (.p (.int left))), none, none] ∧ GOk N xs' ∧ xs'.length ≤ s + 1 ∧ (e5 = .o (.lst (iD (tab s (lk R)))) ∨ e5 = .p (.lst (iD (tab s (lk R))))) ∧ (e9 = .o (.lst (iD xs')) ∨ e9 = .p (.lst (iD xs'))) ∧ (e10 = .o (.lst (iD ys)) ∨ e10 = .p (.lst (iD ys))) ∧ fn xs' = if left % 2 = 1 then RES N (lk R) s (fn xs) (fn ys) else fn xs := by
      refine wp_if (b := decide (left % 2 = 1)) (b_e (e_op (h_val (e_op (h_val (e_call (a_nm rfl a_nil) rfl rfl)) rfl rfl rfl (modI (by decide)))) rfl rfl rfl (eqI _ _))) (fun c => ?_) (fun c => ?_)
      · have c := of_decide_eq_true c
        obtain ⟨r, er, gr, lr, fr⟩ := v__law_led (by omega) N2 hr zr (by omega) (by omega) gx gy
        exact wp_set (e_fn (m_p (ev_s h9 rfl) (m_p (ev_s h10 rfl) (m_p (ev_s h5 rfl) (m_p (ev_p rfl) m_nil)))) rfl er) (by rcases h9 with rfl | rfl <;> rfl) rfl ⟨r, _, _, _, rfl, gr, by omega, .inr rfl, .inr rfl, .inr rfl, by rw [if_pos c]; exact fr⟩
      · have c := of_decide_eq_false c
        exact wp_next ⟨xs, _, _, _, rfl, gx, lx, h5, h9, h10, by rw [if_neg c]⟩
    obtain ⟨fl, ef, xs', e5, e9, e10, rfl, gx', lx', h5, h9, h10, fx'⟩ := key
    rw [← fx'] at ep
    refine wp_nx ef ?_
    obtain ⟨r, er, gr, lr, fr⟩ := v__law_led (by omega) N2 hr zr (by omega) (by omega) gy gy
    refine wp_seq (wp_set (e_fn (m_p (ev_s h10 rfl) (m_p (ev_p rfl) (m_p (ev_s h5 rfl) (m_p (ev_p rfl) m_nil)))) rfl er) (by rcases h10 with rfl | rfl <;> rfl) rfl ?_)
    rw [← fr] at ep
    exact wp_set (e_op rfl rfl rfl rfl (divI (by decide) small2)) rfl rfl ⟨_, k, .inl rfl, by omega, xs', r, left / 2, _, e9, _, by omega, by omega, f2, gx', gr, lx', .inr rfl, h9, .inr rfl, ep, rfl⟩
end
end K15

namespace K15
open PySem PySem.Spec PyProof.Rows L2 DL
abbrev lcAnsP : OX := oLc (iEnumD (eVar 8)) (txT 2 (txsCons (txN 11) (txsCons (txN 12) txsNil))) bYes (eOp gMul (hName 12) (hVal (eOp gIx (hName 10) (hName 11)))) [11, 12]
abbrev sOddP : SX := sIf (bE (eOp gEq (hVal (eOp gMod (hVal (eCall (g1 dInt) (aCons (hName 9) aNil))) (hVal (eC (.int 2))))) (hVal (eC (.int 1))))) (sSet 8 (eFn F_rest_product (mP (eVar 8) (mP (eVar 7) (mP (eVar 4) (mP (eVar 2) mNil)))))) sNext
theorem ix_last (P : Rods) (z : Int × Int) : gIx (dR (P ++ [z])) (.int (-1)) = some (tupI z) := by
  show atI ((P ++ [z]).map tupI) (-1) = _
  rw [List.map_append]
  simp [atI, ixN]
  rw [if_pos (by omega), Option.bind_some, show (-1 + ((P.length : Int) + 1)).toNat = P.length by omega]
  simp
section
variable {R : Rods} (h : V R) {l N : Int} (N1 : 1 < N) (N2 : N ≤ 10000000)
include h N1 N2
theorem v_great_count (l0 : 0 ≤ l) (l2 : l ≤ 1000000000000) {P : Rods} {z : Int × Int} (e : R = P ++ [z]) (m : ∀ q ∈ R, q.1 ≤ z.1) : F_great_count [dR R, .int l, .int N] = some (.int (ans N R z.1.toNat (pw N (lk R) z.1.toNat 40 l (fn [1]) (fn [0, 1])))) := by
  have l1 : l < 2 ^ 40 := Int.lt_of_le_of_lt l2 (by decide)
  have lz := h.lo z (by rw [e]; simp)
  have il : gIx (dR R) (.int (-1)) = some (tupI z) := by rw [e]; exact ix_last P z
  have i0 := t0 z
  obtain ⟨s, hs⟩ : ∃ s : Nat, z.1 = s := ⟨z.1.toNat, by omega⟩
  rw [hs] at m lz i0 ⊢
  rw [Int.toNat_natCast]
  have lo : ∀ q ∈ R, 1 ≤ q.1 ∧ q.1 ≤ (s : Int) ∧ 0 ≤ q.2 ∧ q.2 ≤ 9 := fun q hq => by have := h.lo q hq; have := m q hq; omega
  obtain ⟨hr, zr⟩ := lk_ok lo
  refine runV_wp ?_
  show Wp _ [(some (.p (dR R))), (some (.p (.int l))), (some (.p (.int N))), none, none, none, none, none, none, none, none, none, none] _
  refine wp_seq (wp_drop (e_fn (m_p (ev_p rfl) m_nil) rfl (v_check_rods h)) ?_)
  refine wp_seq (wp_drop (δ1 := [(some (.p (dR R))), (some (.p (.int l))), (some (.p (.int N))), none, none, none, none, none, none, none, none, none, none]) (e_fn (m_p (ev_p rfl) (m_p rfl (m_p (d := .int 1000000000000) (e_op rfl rfl rfl rfl rfl) m_nil))) rfl (v_check_number l0 l2)) ?_)
  refine wp_seq (wp_drop (δ1 := [(some (.p (dR R))), (some (.p (.int l))), (some (.p (.int N))), none, none, none, none, none, none, none, none, none, none]) (e_fn (m_p (ev_p rfl) (m_p rfl (m_p (d := .int 1000000000) (e_op rfl rfl rfl rfl rfl) m_nil))) rfl (v_check_number (by omega) (by omega))) ?_)
  refine wp_seq (wp_set (d := .int s) (δ1 := [(some (.p (dR R))), (some (.p (.int l))), (some (.p (.int N))), none, none, none, none, none, none, none, none, none, none]) (e_op (h_val (e_op rfl (h_val rfl) rfl rfl il)) rfl rfl rfl i0) rfl rfl ?_)
  refine wp_seq (wp_setO (o_op (h_val (e_own (o_lst (a_val rfl a_nil) rfl (by simp [lim])))) rfl rfl rfl (rep0 (L := s) (by omega))) rfl rfl ?_)
  refine wp_seq (wp_for tupI (fun p δ => ∃ x6 x7 : Option D, δ = [(some (.p (dR R))), (some (.p (.int l))), (some (.p (.int N))), (some (.p (.int s))), (some (.o (.lst (iD (tab s fun i => lk p i % N))))), (x6.map .p), (x7.map .p), none, none, none, none, none, none]) R rfl ⟨none, none, by
    have : (fun i => lk [] i % N) = fun _ => 0 := funext fun i => Int.zero_emod N
    rw [this]; rfl⟩ ?_ ?_)
  · rintro p x q δ e ⟨x6, x7, rfl⟩
    have lx := lo x (by rw [e]; simp)
    refine ⟨[(some (.p (dR R))), (some (.p (.int l))), (some (.p (.int N))), (some (.p (.int s))), (some (.o (.lst (iD (tab s fun i => lk p i % N))))), (some (.p (.int x.1))), (some (.p (.int x.2))), none, none, none, none, none, none], by cases x6 <;> cases x7 <;> rfl, ?_⟩
    refine wp_put (e_op (h_val (e_call (a_nm rfl a_nil) rfl rfl)) rfl rfl rfl (modI (by omega))) rfl (h_val (e_op rfl rfl rfl rfl (subI _ _))) rfl rfl (ixN_tab (by omega) (by omega)) ⟨_, .inl rfl, some (.int x.1), some (.int x.2), ?_⟩
    rw [tab_set, lk_mod]; rfl
  rintro δ' ⟨x6, x7, rfl⟩
  refine wp_seq (wp_par (xs := [.o (.lst (iD [0, 1])), .o (.lst (iD [1]))]) (δ1 := [(some (.p (dR R))), (some (.p (.int l))), (some (.p (.int N))), (some (.p (.int s))), (some (.o (.lst (iD (tab s fun i => lk R i % N))))), (x6.map .p), (x7.map .p), none, none, none, none, none, none]) rfl (m_o (o_lst (a_val rfl (a_val rfl a_nil)) rfl (by simp [lim, iD])) (m_o (o_lst (a_val rfl a_nil) rfl (by simp [lim, iD])) m_nil)) rfl ?_)
  refine wp_seq (wp_set (ev_p rfl) rfl rfl ?_)
  refine wp_seq (wp_while (P := fun k δ => ∃ (xs ys : List Int) (left : Int) (e4 e7 e8 : Sl), k ≤ 40 ∧ 0 ≤ left ∧ left < 2 ^ k ∧ GOk N xs ∧ GOk N ys ∧ xs.length ≤ s + 1 ∧ (e4 = .o (.lst (iD (tab s fun i => lk R i % N))) ∨ e4 = .p (.lst (iD (tab s fun i => lk R i % N)))) ∧ (e8 = .o (.lst (iD xs)) ∨ e8 = .p (.lst (iD xs))) ∧ (e7 = .o (.lst (iD ys)) ∨ e7 = .p (.lst (iD ys)))
      ∧ pw N (lk R) s k left (fn xs) (fn ys) = pw N (lk R) s 40 l (fn [1]) (fn [0, 1]) ∧ δ = [(some (.p (dR R))), (some (.p (.int l))), (some (.p (.int N))), (some (.p (.int s))), (some e4), (x6.map .p), (x7.map .p), (some e7), (some e8), (some (.p (.int left))), none, none, none]) 300 40 (by omega) ⟨[1], [0, 1], l, _, _, _, by omega, l0, l1, fn1_in N1, fn01_in N1, by simp, .inl rfl, .inl rfl, .inl rfl, rfl, rfl⟩ ?_)
  rintro k δ ⟨xs, ys, left, e4, e7, e8, k40, f0, f1, gx, gy, lx, h4, h8, h7, ep, rfl⟩
  refine ⟨decide (0 < left), [(some (.p (dR R))), (some (.p (.int l))), (some (.p (.int N))), (some (.p (.int s))), (some e4), (x6.map .p), (x7.map .p), (some e7), (some e8), (some (.p (.int left))), none, none, none], rfl, fun c => ?_, fun c => ?_⟩
  · have c := of_decide_eq_false c
    rw [pw_zero N _ _ _ c] at ep
    refine wp_seq (wp_set (e_fn (m_p (ev_p rfl) (m_p (ev_p rfl) m_nil)) rfl (v_counts h (n := s) (by omega))) rfl rfl ?_)
    have lc : lcAnsP [(some (.p (dR R))), (some (.p (.int l))), (some (.p (.int N))), (some (.p (.int s))), (some e4), (x6.map .p), (x7.map .p), (some e7), (some e8), (some (.p (.int left))), (some (.p (.tup (iD (cl R s))))), none, none] = some (.lst (iD ((List.range xs.length).map fun (a : Nat) => fn xs a * atZ (cl R s) a)), [(some (.p (dR R))), (some (.p (.int l))), (some (.p (.int N))), (some (.p (.int s))), (some e4), (x6.map .p), (x7.map .p), (some e7), (some (.p (.lst (iD xs)))), (some (.p (.int left))), (some (.p (.tup (iD (cl R s))))), none, none]) := by
      rw [iD_map, ← fmap_some (fun a : Nat => D.int (fn xs a * atZ (cl R s) a))]
      refine oLc_pure (fun a : Nat => D.tup [.int a, .int (fn xs a)]) _ (List.range xs.length) ?_ rfl rfl rfl (fun a ha => ⟨[(some (.p (dR R))), (some (.p (.int l))), (some (.p (.int N))), (some (.p (.int s))), (some e4), (x6.map .p), (x7.map .p), (some e7), (some (.p (.lst (iD xs)))), (some (.p (.int left))), (some (.p (.tup (iD (cl R s))))), (some (.p (.int a))), (some (.p (.int (fn xs a))))], rfl, .inr ⟨_, [(some (.p (dR R))), (some (.p (.int l))), (some (.p (.int N))), (some (.p (.int s))), (some e4), (x6.map .p), (x7.map .p), (some e7), (some (.p (.lst (iD xs)))), (some (.p (.int left))), (some (.p (.tup (iD (cl R s))))), (some (.p (.int a))), (some (.p (.int (fn xs a))))], [(some (.p (dR R))), (some (.p (.int l))), (some (.p (.int N))), (some (.p (.int s))), (some e4), (x6.map .p), (x7.map .p), (some e7), (some (.p (.lst (iD xs)))), (some (.p (.int left))), (some (.p (.tup (iD (cl R s))))), (some (.p (.int a))), (some (.p (.int (fn xs a))))], rfl, rfl, ?_, rfl⟩⟩) (by rw [List.length_range]; simp [lim]; omega)
      · unfold iEnumD
        rw [ev_s h8 rfl]
        have := enum_tab xs.length (fn xs)
        rw [tab_fn] at this
        show some (enumD 0 (iD xs), _) = _
        rw [this]; rfl
      · have ha := List.mem_range.mp ha
        obtain ⟨y, y2, _⟩ := atZ_cl h (n := s) (by omega) (i := a) (by omega) (by omega)
        exact e_op rfl (h_val (e_op rfl rfl rfl rfl y)) rfl rfl (mulI (sm N2 (gx.inn a)) y2)
    have v : su xs.length (fun a => fn xs a * atZ (cl R s) a) % N = ans N R s (pw N (lk R) s 40 l (fn [1]) (fn [0, 1])) := by
      unfold ans; rw [← ep, su_ans R s xs lx]
    rw [← v]
    exact wp_ret (e_op (h_val (e_call (a_val (e_call (a_val (e_own lc) a_nil) rfl (sumI _)) a_nil) rfl (intI _))) rfl rfl rfl (modI (by omega))) (.inl ⟨_, rfl⟩)
  · have c := of_decide_eq_true c
    obtain ⟨k, rfl⟩ : ∃ j, k = j + 1 := ⟨k - 1, by
      cases k with
      | zero => have : left < 1 := f1; omega
      | succ k => rfl⟩
    have f2 : left / 2 < 2 ^ k := by rw [Int.pow_succ] at f1; omega
    rw [pw, if_pos c] at ep
    have key : Wp sOddP [(some (.p (dR R))), (some (.p (.int l))), (some (.p (.int N))), (some (.p (.int s))), (some e4), (x6.map .p), (x7.map .p), (some e7), (some e8), (some (.p (.int left))), none, none, none] fun fl => ∃ (xs' : List Int) (e4 e7 e8 : Sl), fl = .nx [(some (.p (dR R))), (some (.p (.int l))), (some (.p (.int N))), (some (.p (.int s))), (some e4), (x6.map .p), (x7.map .p), (some e7), (some e8), (some (.p (.int left))), none, none, none] ∧ GOk N xs' ∧ xs'.length ≤ s + 1 ∧ (e4 = .o (.lst (iD (tab s fun i => lk R i % N))) ∨ e4 = .p (.lst (iD (tab s fun i => lk R i % N)))) ∧ (e8 = .o (.lst (iD xs')) ∨ e8 = .p (.lst (iD xs'))) ∧ (e7 = .o (.lst (iD ys)) ∨ e7 = .p (.lst (iD ys))) ∧ fn xs' = if left % 2 = 1 then RES N (lk R) s (fn xs) (fn ys) else fn xs := by
      refine wp_if (b := decide (left % 2 = 1)) (b_e (e_op (h_val (e_op (h_val (e_call (a_nm rfl a_nil) rfl rfl)) rfl rfl rfl (modI (by decide)))) rfl rfl rfl (eqI _ _))) (fun c => ?_) (fun c => ?_)
      · have c := of_decide_eq_true c
        obtain ⟨r, er, gr, lr, fr⟩ := v_rest_product (by omega) N2 hr zr (by omega) (by omega) gx gy
        exact wp_set (e_fn (m_p (ev_s h8 rfl) (m_p (ev_s h7 rfl) (m_p (ev_s h4 rfl) (m_p (ev_p rfl) m_nil)))) rfl er) (by rcases h8 with rfl | rfl <;> rfl) rfl ⟨r, _, _, _, rfl, gr, by omega, .inr rfl, .inr rfl, .inr rfl, by rw [if_pos c]; exact fr⟩
      · have c := of_decide_eq_false c
        exact wp_next ⟨xs, _, _, _, rfl, gx, lx, h4, h8, h7, by rw [if_neg c]⟩
    obtain ⟨fl, ef, xs', e4, e7, e8, rfl, gx', lx', h4, h8, h7, fx'⟩ := key
    rw [← fx'] at ep
    refine wp_nx ef ?_
    obtain ⟨r, er, gr, lr, fr⟩ := v_rest_product (by omega) N2 hr zr (by omega) (by omega) gy gy
    refine wp_seq (wp_set (e_fn (m_p (ev_s h7 rfl) (m_p (ev_p rfl) (m_p (ev_s h4 rfl) (m_p (ev_p rfl) m_nil)))) rfl er) (by rcases h7 with rfl | rfl <;> rfl) rfl ?_)
    rw [← fr] at ep
    exact wp_set (e_op rfl rfl rfl rfl (divI (by decide) small2)) rfl rfl ⟨_, k, .inl rfl, by omega, xs', r, left / 2, _, _, e8, by omega, by omega, f2, gx', gr, lx', .inr rfl, h8, .inr rfl, ep, rfl⟩
end
end K15

namespace K15
open PySem PySem.Spec PyProof.Rows L2 DL
theorem wt_rods : ∀ (R : Rods), (∀ p ∈ R, 1 ≤ p.1 ∧ p.1 ≤ 60 ∧ 1 ≤ p.2 ∧ p.2 ≤ 9) → wtA (R.map tupI) = some (3853 * R.length)
  | [], _ => rfl
  | p :: R, hw => by
    obtain ⟨a, b, c, d⟩ := hw p List.mem_cons_self
    have l1 : p.1.natAbs.log2 < 1920 := log_le (k := 10) (by omega) (by omega) (by decide) (by decide)
    have l2 : p.2.natAbs.log2 < 1920 := log_le (k := 10) (by omega) (by omega) (by decide) (by decide)
    rw [List.map_cons, wtA, wt_rods R fun q hq => hw q (List.mem_cons_of_mem _ hq)]
    simp only [tupI, wt, wtA, if_pos l1, if_pos l2, Option.map_some, Option.bind_some, List.length_cons]
    congr 1; omega
theorem eq_nil {R : Rods} (lo : ∀ p ∈ R, 1 ≤ p.1 ∧ p.1 ≤ 60 ∧ 1 ≤ p.2 ∧ p.2 ≤ 9) : gEq (.lst (R.map tupI)) (.lst []) = some (.bl R.isEmpty) := by
  have e : dEq (.lst (R.map tupI)) (.lst []) = some R.isEmpty := by
    have w : wt (.lst (R.map tupI)) = some (3853 * R.length + 3) := by rw [wt, wt_rods R lo]; rfl
    obtain ⟨p, p1, p2, p3, p4, p5, p6⟩ := wt_ok w
    have p7 := dp_py p1
    have p8 := dp_row R
    have sp : SeqAt.shaped p = true := by
      unfold SeqAt.shaped
      rw [p4, decide_eq_true (show p.depth ≤ 64 by rw [dp] at p7; omega)]; rfl
    show (toPy (.lst (R.map tupI))).bind (fun a => (toPy (.lst [])).bind fun b => if SeqAt.shaped a && SeqAt.shaped b then some (PyData.eqv a b) else none) = _
    rw [p1]
    show (if SeqAt.shaped p && SeqAt.shaped (.list []) then some (PyData.eqv p (.list [])) else none) = _
    rw [sp, show SeqAt.shaped (.list []) = true from rfl]
    rw [toPy] at p1
    obtain ⟨ys, e1, e2⟩ := ob p1
    cases e2
    cases R with
    | nil =>
      rw [List.map_nil, toPyA] at e1
      cases e1; rfl
    | cons q r =>
      rw [List.map_cons, toPyA] at e1
      obtain ⟨y, _, e3⟩ := ob e1
      obtain ⟨ys', _, e4⟩ := ob e3
      cases e4
      rfl
  unfold gEq
  split
  · rename_i h1 h2; cases h1
  · rw [e]; rfl
theorem V_few {R : Rods} (h : V R) {k : Int} (ne : R.filter (fun p => decide (p.1 ≤ k)) ≠ []) : V (R.filter fun p => decide (p.1 ≤ k)) :=
  ⟨ne, Nat.le_trans (List.length_filter_le _ _) h.len, fun p hp => h.lo p (List.mem_filter.mp hp).1, h.inc.filter _⟩
theorem told_int {N a : Int} (hN : N ≤ 10000000) (h : 0 ≤ a ∧ a < N) : Told (.int a) :=
  ⟨1922, if_pos (log_le (k := 40) h.1 (by omega) (by decide) (by decide)), by simp [lim], by simp [dp]⟩
theorem pow12 : gPow (.int 10) (.int 12) = some (.int 1000000000000) := rfl
theorem pow11 : gPow (.int 10) (.int 11) = some (.int 100000000000) := rfl
theorem pow6 : gPow (.int 10) (.int 6) = some (.int 1000000) := rfl
theorem sub12 : DL.gSub (.int 1000000000000) (.int 1) = some (.int 999999999999) := rfl
theorem add7 : gAdd (.int 100000000000) (.int 7) = some (.int 100000000007) := rfl
theorem v_great (F : Rods) (VF : V F) {l N : Int} (l0 : 0 ≤ l) (l1 : l ≤ 1000000000000) (N1 : 1 < N) (N2 : N ≤ 10000000) : ∃ a, F_great_count [.lst (F.map tupI), .int l, .int N] = some (.int a) ∧ F__law_great [.lst (F.map tupI), .int l, .int N] = some (.int a) ∧ 0 ≤ a ∧ a < N := by
  obtain ⟨P, z, e, m⟩ := last_of VF
  exact ⟨_, v_great_count VF N1 N2 l0 l1 e m, v__law_great VF N1 N2 l0 (Int.lt_of_le_of_lt l1 (by decide)) e m, Int.emod_nonneg _ (by omega), Int.emod_lt_of_pos _ (by omega)⟩
theorem v_law (ns : List Int) : F_law [.ro (ns.map .int)] = some (.bl true) := by
  refine runV_wp ?_
  show Wp s_law [(some (.p (.ro (ns.map .int)))), none, none, none, none, none, none, none] _
  obtain ⟨h0, e0, ok0⟩ := v_hand ns
  obtain ⟨R, h1, e1, VR, ok1⟩ := v_rods ok0
  obtain ⟨r1, h2, e2, r10, r11, ok2⟩ := v_draw (by omega) ok1 (n := 60) (by decide) (by decide)
  obtain ⟨k1, rfl⟩ : ∃ k : Nat, r1 = k := ⟨r1.toNat, by omega⟩
  have vs := v_sums VR (n := 60 + k1) (by omega) (hC h2)
  rw [show ((60 + k1 : Nat) : Int) = 60 + (k1 : Int) by omega] at vs
  refine wp_seq (wp_setO (o_fn (m_p (ev_p rfl) m_nil) rfl e0) rfl rfl ?_)
  refine wp_seq (wp_set (d := dR R) (δ1 := [(some (.p (.ro (ns.map .int)))), some (.o (hC h1)), none, none, none, none, none, none]) (e_ref rfl m_nil rfl rfl e1 rfl) rfl rfl ?_)
  refine wp_seq (wp_f (δ1 := [(some (.p (.ro (ns.map .int)))), some (.o (hC h2)), (some (.p (dR R))), none, none, none, none, none]) (b_not (b := true) (b_e (e_ref rfl (m_p (ev_p rfl) (m_p (e_op rfl (h_val (e_ref rfl (m_p rfl m_nil) rfl rfl e2 rfl)) rfl rfl (addI _ _)) m_nil)) rfl rfl vs rfl))) (wp_next ?_))
  obtain ⟨r2, h3, e3, r20, r21, ok3⟩ := v_draw (by omega) ok2 (n := 100) (by decide) (by decide)
  obtain ⟨n, hn⟩ : ∃ n : Nat, 100 + r2 = n := ⟨(100 + r2).toNat, by omega⟩
  refine wp_seq (wp_set (d := .int (100 + r2)) (δ1 := [(some (.p (.ro (ns.map .int)))), some (.o (hC h3)), (some (.p (dR R))), none, none, none, none, none]) (e_op rfl (h_val (e_ref rfl (m_p rfl m_nil) rfl rfl e3 rfl)) rfl rfl (addI _ _)) rfl rfl ?_)
  rw [hn]
  have yn := atZ_row VR (n := n) (by omega) (i := n) (by omega) (by omega)
  have key : ∃ h4, (bAnd (bE (eOp gGt (hVal (eOp gIx (hVal (eFn F__law_counts (mP (eVar 2) (mP (eVar 3) mNil)))) (hName 3))) (hVal (eC (.int 0))))) (bNot (bE (eRef F__law_is_row_right 1 (mP (eVar 2) (mP (eVar 3) mNil)))))) [(some (.p (.ro (ns.map .int)))), some (.o (hC h3)), (some (.p (dR R))), (some (.p (.int n))), none, none, none, none] = some (false, [(some (.p (.ro (ns.map .int)))), some (.o (hC h4)), (some (.p (dR R))), (some (.p (.int n))), none, none, none, none]) ∧ HOk 1000 h4 := by
    have b1 : (bE (eOp gGt (hVal (eOp gIx (hVal (eFn F__law_counts (mP (eVar 2) (mP (eVar 3) mNil)))) (hName 3))) (hVal (eC (.int 0))))) [(some (.p (.ro (ns.map .int)))), some (.o (hC h3)), (some (.p (dR R))), (some (.p (.int n))), none, none, none, none] = some (decide (0 < atZ (cl R n) n), [(some (.p (.ro (ns.map .int)))), some (.o (hC h3)), (some (.p (dR R))), (some (.p (.int n))), none, none, none, none]) :=
      b_e (e_op (h_val (e_op (h_val (e_fn (m_p (ev_p rfl) (m_p (ev_p rfl) m_nil)) rfl (v__law_counts VR (by omega)))) rfl rfl rfl yn)) rfl rfl rfl (gtI _ _))
    by_cases c : 0 < atZ (cl R n) n
    · rw [decide_eq_true c] at b1
      obtain ⟨h4, e4, ok4⟩ := v_is_row_right VR (n := n) (by omega) (by omega) c (by omega) ok3
      exact ⟨h4, b_and_t b1 (b_not (b := true) (b_e (e_ref rfl (m_p (ev_p rfl) (m_p (ev_p rfl) m_nil)) rfl rfl e4 rfl))), ok4.more (by omega)⟩
    · rw [decide_eq_false c] at b1
      exact ⟨h3, b_and_f b1, ok3.more (by omega)⟩
  obtain ⟨h4, e4, ok4⟩ := key
  refine wp_seq (wp_f e4 (wp_next ?_))
  have lc : oLc (iSeq (eVar 2)) (txN 5) (bE (eOp gLe (hVal (eOp gIx (hName 5) (hVal (eC (.int 0))))) (hVal (eC (.int 12))))) (eVar 5) [5] [(some (.p (.ro (ns.map .int)))), some (.o (hC h4)), (some (.p (dR R))), (some (.p (.int n))), none, none, none, none] = some (.lst ((R.filter fun p => decide (p.1 ≤ 12)).map tupI), [(some (.p (.ro (ns.map .int)))), some (.o (hC h4)), (some (.p (dR R))), (some (.p (.int n))), none, none, none, none]) := by
    rw [← filter_T]
    refine oLc_pure tupI (leT 12) R rfl rfl rfl rfl (fun p hp => ⟨[(some (.p (.ro (ns.map .int)))), some (.o (hC h4)), (some (.p (dR R))), (some (.p (.int n))), none, (some (.p (tupI p))), none, none], rfl, ?_⟩) (by have := VR.len; simp [lim]; omega)
    have b1 : bE (eOp gLe (hVal (eOp gIx (hName 5) (hVal (eC (.int 0))))) (hVal (eC (.int 12)))) [(some (.p (.ro (ns.map .int)))), some (.o (hC h4)), (some (.p (dR R))), (some (.p (.int n))), none, (some (.p (tupI p))), none, none] = some (decide (p.1 ≤ 12), [(some (.p (.ro (ns.map .int)))), some (.o (hC h4)), (some (.p (dR R))), (some (.p (.int n))), none, (some (.p (tupI p))), none, none]) := b_e (e_op (h_val (e_op rfl rfl rfl rfl (t0 p))) rfl rfl rfl (leI _ _))
    by_cases c : p.1 ≤ 12
    · rw [decide_eq_true c] at b1
      exact .inr ⟨tupI p, _, _, leT_1 c, b1, ev_p rfl, rfl⟩
    · rw [decide_eq_false c] at b1
      exact .inl ⟨leT_2 c, _, b1, rfl⟩
  refine wp_seq (wp_setO lc rfl rfl ?_)
  have lo : ∀ p ∈ R.filter (fun p => decide (p.1 ≤ 12)), 1 ≤ p.1 ∧ p.1 ≤ 60 ∧ 1 ≤ p.2 ∧ p.2 ≤ 9 := fun p hp => VR.lo p (List.mem_filter.mp hp).1
  have VF := V_few VR (k := 12)
  generalize R.filter (fun p => decide (p.1 ≤ 12)) = F at *
  refine wp_seq (wp_if (b := F.isEmpty) (δ1 := [(some (.p (.ro (ns.map .int)))), some (.o (hC h4)), (some (.p (dR R))), (some (.p (.int n))), (some (.o (.lst (F.map tupI)))), none, none, none]) (b_e (e_op rfl (h_val (e_own (o_lst a_nil rfl (by simp [lim])))) rfl rfl (eq_nil lo))) (fun c => ?_) (fun c => wp_next ?_))
  · exact wp_ret rfl (.inl ⟨_, rfl⟩)
  have VF := VF fun z => by rw [z] at c; cases c
  obtain ⟨d, h5, e5, hd, ok5⟩ := v_any (by omega) ok4 (ds := [.int 1000000000000, .int 999999999999, .int 100000000007, .int 400]) (by decide) (by decide)
  obtain ⟨l, rfl, l0, l1⟩ : ∃ l : Int, d = .int l ∧ 0 ≤ l ∧ l ≤ 1000000000000 := by
    simp at hd
    rcases hd with rfl | rfl | rfl | rfl <;> exact ⟨_, rfl, by decide, by decide⟩
  obtain ⟨r3, h6, e6, r30, r31, ok6⟩ := v_draw (by omega) ok5 (n := 1000000) (by decide) (by decide)
  refine wp_seq (wp_par (xs := [.p (.int l), .p (.int (2 + r3))]) (δ1 := [(some (.p (.ro (ns.map .int)))), some (.o (hC h6)), (some (.p (dR R))), (some (.p (.int n))), (some (.o (.lst (F.map tupI)))), none, none, none]) rfl (m_p (e_ref rfl (m_p (e_own (o_lst (a_val (e_op rfl rfl rfl rfl pow12) (a_val (e_op (h_val (e_op rfl rfl rfl rfl pow12)) rfl rfl rfl sub12) (a_val (e_op (h_val (e_op rfl rfl rfl rfl pow11)) rfl rfl rfl add7) (a_val rfl a_nil)))) rfl (by simp [lim]))) m_nil) rfl rfl e5 rfl) (m_p (e_op rfl (h_val (e_ref rfl (m_p (e_op rfl rfl rfl rfl pow6) m_nil) rfl rfl e6 rfl)) rfl rfl (addI _ _)) m_nil)) rfl ?_)
  obtain ⟨a, g1, g2, a0, a1⟩ := v_great F VF l0 l1 (N := 2 + r3) (by omega) (by omega)
  exact wp_ret (e_fn (m_p (e_fn (m_p (ev_o rfl) (m_p (ev_p rfl) (m_p (ev_p rfl) m_nil))) rfl g1) (m_p (e_fn (m_p (ev_p rfl) (m_p (ev_p rfl) (m_p (ev_p rfl) m_nil))) rfl g2) m_nil)) rfl (v__law_like (told_int (N := 2 + r3) (by omega) ⟨a0, a1⟩))) (.inl ⟨_, rfl⟩)
end K15

namespace K15
open PySem PySem.Spec PyProof.Rows L2 DL
theorem fnV {P : Program} {ww : World} {K : PySem.W.Frag} {mg : Str → Option Value} {base : Heap} {f : Addr} {fd : FuncData} {xn : Str} {st : Stmt} {N ps : List Str} {k : Nat} {sx : SX} (F : L2.Fun K xn xn st f fd) (Sc : FnScope N ps (defScope st)) (B : Body P ww K mg base N k xn st f sx) : FnG P ww K mg base (k + 1) f fd ps (spV ps.length K (runV N.length sx)) :=
  fnG F Sc (fun vs H Q E h => h.1) B fun vs H Q E ⟨hl, T, ds, d, al, r, e, q⟩ => by
    obtain ⟨fl, e1, e2⟩ := ob e
    obtain ⟨s, no⟩ := sat_start (N := N) al r (by rw [hl]; exact len_start Sc)
    refine ⟨T, _, fl, s, e1, ?_⟩
    cases fl with
    | nx δ => cases e2; exact fun σ' H' p => q _ H' (p.ev.mono fun x h => .inl (no x h)) .non
    | rt r δ =>
      cases r with
      | p d' => cases e2; exact fun v σ' H' p rv => q v H' (p.ev.mono fun x h => .inl (no x h)) (rv.wid fun x h => .inl (.inl h))
      | _ => cases e2
    | _ => cases e2
theorem all_mk {l : PySem.W.OpenLaw} {w : World} {K : PySem.W.Frag} {h : Heap} {mg : Str → Option Value} {fa : Addr} (X : K.In h) (G : h.Ns mainGlobals mg) (hfa : mg "law" = some (.ref fa))
    {f0 : Addr} {od0 an0 : Option Addr} {sl0 : Array (Option Value)} {oc0 kV0 dc0 pm0 cd0 ct0 : Value} (a0 : PySem.W.nsIn K mainGlobals "is_integer" = some (some (.ref f0))) (l0 : K.lookup f0 = some ⟨oc0, od0, .func (PySem.W.fnOf "is_integer" "is_integer" (defArgs st_is_integer) (defBody st_is_integer) (defScope st_is_integer) .none kV0 dc0 pm0 an0 cd0 ct0), sl0⟩) (c0 : PySem.W.codeIn K cd0 "is_integer" = true) (k0 : PySem.W.keepIn K (.ref f0) = true)
    {f1 : Addr} {od1 an1 : Option Addr} {sl1 : Array (Option Value)} {oc1 kV1 dc1 pm1 cd1 ct1 : Value} (a1 : PySem.W.nsIn K mainGlobals "is_within" = some (some (.ref f1))) (l1 : K.lookup f1 = some ⟨oc1, od1, .func (PySem.W.fnOf "is_within" "is_within" (defArgs st_is_within) (defBody st_is_within) (defScope st_is_within) .none kV1 dc1 pm1 an1 cd1 ct1), sl1⟩) (c1 : PySem.W.codeIn K cd1 "is_within" = true) (k1 : PySem.W.keepIn K (.ref f1) = true)
    {f2 : Addr} {od2 an2 : Option Addr} {sl2 : Array (Option Value)} {oc2 kV2 dc2 pm2 cd2 ct2 : Value} (a2 : PySem.W.nsIn K mainGlobals "is_row" = some (some (.ref f2))) (l2 : K.lookup f2 = some ⟨oc2, od2, .func (PySem.W.fnOf "is_row" "is_row" (defArgs st_is_row) (defBody st_is_row) (defScope st_is_row) .none kV2 dc2 pm2 an2 cd2 ct2), sl2⟩) (c2 : PySem.W.codeIn K cd2 "is_row" = true) (k2 : PySem.W.keepIn K (.ref f2) = true)
    {f3 : Addr} {od3 an3 : Option Addr} {sl3 : Array (Option Value)} {oc3 kV3 dc3 pm3 cd3 ct3 : Value} (a3 : PySem.W.nsIn K mainGlobals "check_number" = some (some (.ref f3))) (l3 : K.lookup f3 = some ⟨oc3, od3, .func (PySem.W.fnOf "check_number" "check_number" (defArgs st_check_number) (defBody st_check_number) (defScope st_check_number) .none kV3 dc3 pm3 an3 cd3 ct3), sl3⟩) (c3 : PySem.W.codeIn K cd3 "check_number" = true) (k3 : PySem.W.keepIn K (.ref f3) = true)
    {f4 : Addr} {od4 an4 : Option Addr} {sl4 : Array (Option Value)} {oc4 kV4 dc4 pm4 cd4 ct4 : Value} (a4 : PySem.W.nsIn K mainGlobals "check_rods" = some (some (.ref f4))) (l4 : K.lookup f4 = some ⟨oc4, od4, .func (PySem.W.fnOf "check_rods" "check_rods" (defArgs st_check_rods) (defBody st_check_rods) (defScope st_check_rods) .none kV4 dc4 pm4 an4 cd4 ct4), sl4⟩) (c4 : PySem.W.codeIn K cd4 "check_rods" = true) (k4 : PySem.W.keepIn K (.ref f4) = true)
    {f5 : Addr} {od5 an5 : Option Addr} {sl5 : Array (Option Value)} {oc5 kV5 dc5 pm5 cd5 ct5 : Value} (a5 : PySem.W.nsIn K mainGlobals "counts" = some (some (.ref f5))) (l5 : K.lookup f5 = some ⟨oc5, od5, .func (PySem.W.fnOf "counts" "counts" (defArgs st_counts) (defBody st_counts) (defScope st_counts) .none kV5 dc5 pm5 an5 cd5 ct5), sl5⟩) (c5 : PySem.W.codeIn K cd5 "counts" = true) (k5 : PySem.W.keepIn K (.ref f5) = true)
    {f6 : Addr} {od6 an6 : Option Addr} {sl6 : Array (Option Value)} {oc6 kV6 dc6 pm6 cd6 ct6 : Value} (a6 : PySem.W.nsIn K mainGlobals "rest_product" = some (some (.ref f6))) (l6 : K.lookup f6 = some ⟨oc6, od6, .func (PySem.W.fnOf "rest_product" "rest_product" (defArgs st_rest_product) (defBody st_rest_product) (defScope st_rest_product) .none kV6 dc6 pm6 an6 cd6 ct6), sl6⟩) (c6 : PySem.W.codeIn K cd6 "rest_product" = true) (k6 : PySem.W.keepIn K (.ref f6) = true)
    {f7 : Addr} {od7 an7 : Option Addr} {sl7 : Array (Option Value)} {oc7 kV7 dc7 pm7 cd7 ct7 : Value} (a7 : PySem.W.nsIn K mainGlobals "great_count" = some (some (.ref f7))) (l7 : K.lookup f7 = some ⟨oc7, od7, .func (PySem.W.fnOf "great_count" "great_count" (defArgs st_great_count) (defBody st_great_count) (defScope st_great_count) .none kV7 dc7 pm7 an7 cd7 ct7), sl7⟩) (c7 : PySem.W.codeIn K cd7 "great_count" = true) (k7 : PySem.W.keepIn K (.ref f7) = true)
    {f8 : Addr} {od8 an8 : Option Addr} {sl8 : Array (Option Value)} {oc8 kV8 dc8 pm8 cd8 ct8 : Value} (a8 : PySem.W.nsIn K mainGlobals "is_rod" = some (some (.ref f8))) (l8 : K.lookup f8 = some ⟨oc8, od8, .func (PySem.W.fnOf "is_rod" "is_rod" (defArgs st_is_rod) (defBody st_is_rod) (defScope st_is_rod) .none kV8 dc8 pm8 an8 cd8 ct8), sl8⟩) (c8 : PySem.W.codeIn K cd8 "is_rod" = true) (k8 : PySem.W.keepIn K (.ref f8) = true)
    {f9 : Addr} {od9 an9 : Option Addr} {sl9 : Array (Option Value)} {oc9 kV9 dc9 pm9 cd9 ct9 : Value} (a9 : PySem.W.nsIn K mainGlobals "is_filled" = some (some (.ref f9))) (l9 : K.lookup f9 = some ⟨oc9, od9, .func (PySem.W.fnOf "is_filled" "is_filled" (defArgs st_is_filled) (defBody st_is_filled) (defScope st_is_filled) .none kV9 dc9 pm9 an9 cd9 ct9), sl9⟩) (c9 : PySem.W.codeIn K cd9 "is_filled" = true) (k9 : PySem.W.keepIn K (.ref f9) = true)
    {f10 : Addr} {od10 an10 : Option Addr} {sl10 : Array (Option Value)} {oc10 kV10 dc10 pm10 cd10 ct10 : Value} (a10 : PySem.W.nsIn K mainGlobals "rank" = some (some (.ref f10))) (l10 : K.lookup f10 = some ⟨oc10, od10, .func (PySem.W.fnOf "rank" "rank" (defArgs st_rank) (defBody st_rank) (defScope st_rank) .none kV10 dc10 pm10 an10 cd10 ct10), sl10⟩) (c10 : PySem.W.codeIn K cd10 "rank" = true) (k10 : PySem.W.keepIn K (.ref f10) = true)
    {f11 : Addr} {od11 an11 : Option Addr} {sl11 : Array (Option Value)} {oc11 kV11 dc11 pm11 cd11 ct11 : Value} (a11 : PySem.W.nsIn K mainGlobals "row_at" = some (some (.ref f11))) (l11 : K.lookup f11 = some ⟨oc11, od11, .func (PySem.W.fnOf "row_at" "row_at" (defArgs st_row_at) (defBody st_row_at) (defScope st_row_at) .none kV11 dc11 pm11 an11 cd11 ct11), sl11⟩) (c11 : PySem.W.codeIn K cd11 "row_at" = true) (k11 : PySem.W.keepIn K (.ref f11) = true)
    {f12 : Addr} {od12 an12 : Option Addr} {sl12 : Array (Option Value)} {oc12 kV12 dc12 pm12 cd12 ct12 : Value} (a12 : PySem.W.nsIn K mainGlobals "mirrored_counts" = some (some (.ref f12))) (l12 : K.lookup f12 = some ⟨oc12, od12, .func (PySem.W.fnOf "mirrored_counts" "mirrored_counts" (defArgs st_mirrored_counts) (defBody st_mirrored_counts) (defScope st_mirrored_counts) .none kV12 dc12 pm12 an12 cd12 ct12), sl12⟩) (c12 : PySem.W.codeIn K cd12 "mirrored_counts" = true) (k12 : PySem.W.keepIn K (.ref f12) = true)
    {f13 : Addr} {od13 an13 : Option Addr} {sl13 : Array (Option Value)} {oc13 kV13 dc13 pm13 cd13 ct13 : Value} (a13 : PySem.W.nsIn K mainGlobals "unlike_counts" = some (some (.ref f13))) (l13 : K.lookup f13 = some ⟨oc13, od13, .func (PySem.W.fnOf "unlike_counts" "unlike_counts" (defArgs st_unlike_counts) (defBody st_unlike_counts) (defScope st_unlike_counts) .none kV13 dc13 pm13 an13 cd13 ct13), sl13⟩) (c13 : PySem.W.codeIn K cd13 "unlike_counts" = true) (k13 : PySem.W.keepIn K (.ref f13) = true)
    {f14 : Addr} {od14 an14 : Option Addr} {sl14 : Array (Option Value)} {oc14 kV14 dc14 pm14 cd14 ct14 : Value} (a14 : PySem.W.nsIn K mainGlobals "round_counts" = some (some (.ref f14))) (l14 : K.lookup f14 = some ⟨oc14, od14, .func (PySem.W.fnOf "round_counts" "round_counts" (defArgs st_round_counts) (defBody st_round_counts) (defScope st_round_counts) .none kV14 dc14 pm14 an14 cd14 ct14), sl14⟩) (c14 : PySem.W.codeIn K cd14 "round_counts" = true) (k14 : PySem.W.keepIn K (.ref f14) = true)
    {f15 : Addr} {od15 an15 : Option Addr} {sl15 : Array (Option Value)} {oc15 kV15 dc15 pm15 cd15 ct15 : Value} (a15 : PySem.W.nsIn K mainGlobals "fewest" = some (some (.ref f15))) (l15 : K.lookup f15 = some ⟨oc15, od15, .func (PySem.W.fnOf "fewest" "fewest" (defArgs st_fewest) (defBody st_fewest) (defScope st_fewest) .none kV15 dc15 pm15 an15 cd15 ct15), sl15⟩) (c15 : PySem.W.codeIn K cd15 "fewest" = true) (k15 : PySem.W.keepIn K (.ref f15) = true)
    {f16 : Addr} {od16 an16 : Option Addr} {sl16 : Array (Option Value)} {oc16 kV16 dc16 pm16 cd16 ct16 : Value} (a16 : PySem.W.nsIn K mainGlobals "mean_rods" = some (some (.ref f16))) (l16 : K.lookup f16 = some ⟨oc16, od16, .func (PySem.W.fnOf "mean_rods" "mean_rods" (defArgs st_mean_rods) (defBody st_mean_rods) (defScope st_mean_rods) .none kV16 dc16 pm16 an16 cd16 ct16), sl16⟩) (c16 : PySem.W.codeIn K cd16 "mean_rods" = true) (k16 : PySem.W.keepIn K (.ref f16) = true)
    {f17 : Addr} {od17 an17 : Option Addr} {sl17 : Array (Option Value)} {oc17 kV17 dc17 pm17 cd17 ct17 : Value} (a17 : PySem.W.nsIn K mainGlobals "broken_at" = some (some (.ref f17))) (l17 : K.lookup f17 = some ⟨oc17, od17, .func (PySem.W.fnOf "broken_at" "broken_at" (defArgs st_broken_at) (defBody st_broken_at) (defScope st_broken_at) .none kV17 dc17 pm17 an17 cd17 ct17), sl17⟩) (c17 : PySem.W.codeIn K cd17 "broken_at" = true) (k17 : PySem.W.keepIn K (.ref f17) = true)
    {f18 : Addr} {od18 an18 : Option Addr} {sl18 : Array (Option Value)} {oc18 kV18 dc18 pm18 cd18 ct18 : Value} (a18 : PySem.W.nsIn K mainGlobals "_law_hand" = some (some (.ref f18))) (l18 : K.lookup f18 = some ⟨oc18, od18, .func (PySem.W.fnOf "_law_hand" "_law_hand" (defArgs st__law_hand) (defBody st__law_hand) (defScope st__law_hand) .none kV18 dc18 pm18 an18 cd18 ct18), sl18⟩) (c18 : PySem.W.codeIn K cd18 "_law_hand" = true) (k18 : PySem.W.keepIn K (.ref f18) = true)
    {f19 : Addr} {od19 an19 : Option Addr} {sl19 : Array (Option Value)} {oc19 kV19 dc19 pm19 cd19 ct19 : Value} (a19 : PySem.W.nsIn K mainGlobals "_law_draw" = some (some (.ref f19))) (l19 : K.lookup f19 = some ⟨oc19, od19, .func (PySem.W.fnOf "_law_draw" "_law_draw" (defArgs st__law_draw) (defBody st__law_draw) (defScope st__law_draw) .none kV19 dc19 pm19 an19 cd19 ct19), sl19⟩) (c19 : PySem.W.codeIn K cd19 "_law_draw" = true) (k19 : PySem.W.keepIn K (.ref f19) = true)
    {f20 : Addr} {od20 an20 : Option Addr} {sl20 : Array (Option Value)} {oc20 kV20 dc20 pm20 cd20 ct20 : Value} (a20 : PySem.W.nsIn K mainGlobals "_law_any" = some (some (.ref f20))) (l20 : K.lookup f20 = some ⟨oc20, od20, .func (PySem.W.fnOf "_law_any" "_law_any" (defArgs st__law_any) (defBody st__law_any) (defScope st__law_any) .none kV20 dc20 pm20 an20 cd20 ct20), sl20⟩) (c20 : PySem.W.codeIn K cd20 "_law_any" = true) (k20 : PySem.W.keepIn K (.ref f20) = true)
    {f21 : Addr} {od21 an21 : Option Addr} {sl21 : Array (Option Value)} {oc21 kV21 dc21 pm21 cd21 ct21 : Value} (a21 : PySem.W.nsIn K mainGlobals "_law_like" = some (some (.ref f21))) (l21 : K.lookup f21 = some ⟨oc21, od21, .func (PySem.W.fnOf "_law_like" "_law_like" (defArgs st__law_like) (defBody st__law_like) (defScope st__law_like) .none kV21 dc21 pm21 an21 cd21 ct21), sl21⟩) (c21 : PySem.W.codeIn K cd21 "_law_like" = true) (k21 : PySem.W.keepIn K (.ref f21) = true)
    {f22 : Addr} {od22 an22 : Option Addr} {sl22 : Array (Option Value)} {oc22 kV22 dc22 pm22 cd22 ct22 : Value} (a22 : PySem.W.nsIn K mainGlobals "_law_rods" = some (some (.ref f22))) (l22 : K.lookup f22 = some ⟨oc22, od22, .func (PySem.W.fnOf "_law_rods" "_law_rods" (defArgs st__law_rods) (defBody st__law_rods) (defScope st__law_rods) .none kV22 dc22 pm22 an22 cd22 ct22), sl22⟩) (c22 : PySem.W.codeIn K cd22 "_law_rods" = true) (k22 : PySem.W.keepIn K (.ref f22) = true)
    {f23 : Addr} {od23 an23 : Option Addr} {sl23 : Array (Option Value)} {oc23 kV23 dc23 pm23 cd23 ct23 : Value} (a23 : PySem.W.nsIn K mainGlobals "_law_counts" = some (some (.ref f23))) (l23 : K.lookup f23 = some ⟨oc23, od23, .func (PySem.W.fnOf "_law_counts" "_law_counts" (defArgs st__law_counts) (defBody st__law_counts) (defScope st__law_counts) .none kV23 dc23 pm23 an23 cd23 ct23), sl23⟩) (c23 : PySem.W.codeIn K cd23 "_law_counts" = true) (k23 : PySem.W.keepIn K (.ref f23) = true)
    {f24 : Addr} {od24 an24 : Option Addr} {sl24 : Array (Option Value)} {oc24 kV24 dc24 pm24 cd24 ct24 : Value} (a24 : PySem.W.nsIn K mainGlobals "_law_rank" = some (some (.ref f24))) (l24 : K.lookup f24 = some ⟨oc24, od24, .func (PySem.W.fnOf "_law_rank" "_law_rank" (defArgs st__law_rank) (defBody st__law_rank) (defScope st__law_rank) .none kV24 dc24 pm24 an24 cd24 ct24), sl24⟩) (c24 : PySem.W.codeIn K cd24 "_law_rank" = true) (k24 : PySem.W.keepIn K (.ref f24) = true)
    {f25 : Addr} {od25 an25 : Option Addr} {sl25 : Array (Option Value)} {oc25 kV25 dc25 pm25 cd25 ct25 : Value} (a25 : PySem.W.nsIn K mainGlobals "_law_row" = some (some (.ref f25))) (l25 : K.lookup f25 = some ⟨oc25, od25, .func (PySem.W.fnOf "_law_row" "_law_row" (defArgs st__law_row) (defBody st__law_row) (defScope st__law_row) .none kV25 dc25 pm25 an25 cd25 ct25), sl25⟩) (c25 : PySem.W.codeIn K cd25 "_law_row" = true) (k25 : PySem.W.keepIn K (.ref f25) = true)
    {f26 : Addr} {od26 an26 : Option Addr} {sl26 : Array (Option Value)} {oc26 kV26 dc26 pm26 cd26 ct26 : Value} (a26 : PySem.W.nsIn K mainGlobals "_law_led" = some (some (.ref f26))) (l26 : K.lookup f26 = some ⟨oc26, od26, .func (PySem.W.fnOf "_law_led" "_law_led" (defArgs st__law_led) (defBody st__law_led) (defScope st__law_led) .none kV26 dc26 pm26 an26 cd26 ct26), sl26⟩) (c26 : PySem.W.codeIn K cd26 "_law_led" = true) (k26 : PySem.W.keepIn K (.ref f26) = true)
    {f27 : Addr} {od27 an27 : Option Addr} {sl27 : Array (Option Value)} {oc27 kV27 dc27 pm27 cd27 ct27 : Value} (a27 : PySem.W.nsIn K mainGlobals "_law_great" = some (some (.ref f27))) (l27 : K.lookup f27 = some ⟨oc27, od27, .func (PySem.W.fnOf "_law_great" "_law_great" (defArgs st__law_great) (defBody st__law_great) (defScope st__law_great) .none kV27 dc27 pm27 an27 cd27 ct27), sl27⟩) (c27 : PySem.W.codeIn K cd27 "_law_great" = true) (k27 : PySem.W.keepIn K (.ref f27) = true)
    {f28 : Addr} {od28 an28 : Option Addr} {sl28 : Array (Option Value)} {oc28 kV28 dc28 pm28 cd28 ct28 : Value} (a28 : PySem.W.nsIn K mainGlobals "_law_are_sums_right" = some (some (.ref f28))) (l28 : K.lookup f28 = some ⟨oc28, od28, .func (PySem.W.fnOf "_law_are_sums_right" "_law_are_sums_right" (defArgs st__law_are_sums_right) (defBody st__law_are_sums_right) (defScope st__law_are_sums_right) .none kV28 dc28 pm28 an28 cd28 ct28), sl28⟩) (c28 : PySem.W.codeIn K cd28 "_law_are_sums_right" = true) (k28 : PySem.W.keepIn K (.ref f28) = true)
    {f29 : Addr} {od29 an29 : Option Addr} {sl29 : Array (Option Value)} {oc29 kV29 dc29 pm29 cd29 ct29 : Value} (a29 : PySem.W.nsIn K mainGlobals "_law_is_row_right" = some (some (.ref f29))) (l29 : K.lookup f29 = some ⟨oc29, od29, .func (PySem.W.fnOf "_law_is_row_right" "_law_is_row_right" (defArgs st__law_is_row_right) (defBody st__law_is_row_right) (defScope st__law_is_row_right) .none kV29 dc29 pm29 an29 cd29 ct29), sl29⟩) (c29 : PySem.W.codeIn K cd29 "_law_is_row_right" = true) (k29 : PySem.W.keepIn K (.ref f29) = true)
    {f30 : Addr} {od30 an30 : Option Addr} {sl30 : Array (Option Value)} {oc30 kV30 dc30 pm30 cd30 ct30 : Value} (a30 : PySem.W.nsIn K mainGlobals "law" = some (some (.ref f30))) (l30 : K.lookup f30 = some ⟨oc30, od30, .func (PySem.W.fnOf "law" "law" (defArgs st_law) (defBody st_law) (defScope st_law) .none kV30 dc30 pm30 an30 cd30 ct30), sl30⟩) (c30 : PySem.W.codeIn K cd30 "law" = true) (k30 : PySem.W.keepIn K (.ref f30) = true)
    {tMOST_LENGTH : Tok} (mMOST_LENGTH : PySem.W.nsIn K mainGlobals "MOST_LENGTH" = some (some (.int 60 tMOST_LENGTH)))
    {tMOST_LONG : Tok} (mMOST_LONG : PySem.W.nsIn K mainGlobals "MOST_LONG" = some (some (.int 400 tMOST_LONG)))
    (zlen : PySem.W.nsIn K mainGlobals "len" = some none)
    (zsum : PySem.W.nsIn K mainGlobals "sum" = some none)
    (zrange : PySem.W.nsIn K mainGlobals "range" = some none)
    (zall : PySem.W.nsIn K mainGlobals "all" = some none)
    (zany : PySem.W.nsIn K mainGlobals "any" = some none)
    (zzip : PySem.W.nsIn K mainGlobals "zip" = some none)
    (zenumerate : PySem.W.nsIn K mainGlobals "enumerate" = some none)
    (zisinstance : PySem.W.nsIn K mainGlobals "isinstance" = some none)
    (zint : PySem.W.nsIn K mainGlobals "int" = some none)
    (zbool : PySem.W.nsIn K mainGlobals "bool" = some none)
    (zlist : PySem.W.nsIn K mainGlobals "list" = some none)
    (ztuple : PySem.W.nsIn K mainGlobals "tuple" = some none)
    (zdict : PySem.W.nsIn K mainGlobals "dict" = some none)
    (zabs : PySem.W.nsIn K mainGlobals "abs" = some none)
    (zmin : PySem.W.nsIn K mainGlobals "min" = some none)
    (zmax : PySem.W.nsIn K mainGlobals "max" = some none)
    (zsorted : PySem.W.nsIn K mainGlobals "sorted" = some none)
    (zrepr : PySem.W.nsIn K mainGlobals "repr" = some none)
    : ∃ fd : FuncData, (∀ (s : Shared) (v : Value), BindsTo s fd ⟨[v], []⟩ [("script", v)]) ∧ ∀ base : Heap, K.In base → base.Ns mainGlobals mg → FnG l.prog w K mg base 8 fa fd ["script"] (spV 1 K F_law) := by
  have e := hfa.symm.trans (PySem.W.mg_of X G a30)
  cases e
  have F0 := fun_mk (st := st_is_integer) l0 c0 k0
  have b0 := F0.binds (ps := ["thing"]) fun _ _ _ _ _ _ us hl => match us, hl with | [_], _ => rfl
  have F1 := fun_mk (st := st_is_within) l1 c1 k1
  have b1 := F1.binds (ps := ["thing", "low", "high"]) fun _ _ _ _ _ _ us hl => match us, hl with | [_, _, _], _ => rfl
  have F2 := fun_mk (st := st_is_row) l2 c2 k2
  have b2 := F2.binds (ps := ["thing"]) fun _ _ _ _ _ _ us hl => match us, hl with | [_], _ => rfl
  have F3 := fun_mk (st := st_check_number) l3 c3 k3
  have b3 := F3.binds (ps := ["thing", "low", "high"]) fun _ _ _ _ _ _ us hl => match us, hl with | [_, _, _], _ => rfl
  have F4 := fun_mk (st := st_check_rods) l4 c4 k4
  have b4 := F4.binds (ps := ["rods"]) fun _ _ _ _ _ _ us hl => match us, hl with | [_], _ => rfl
  have F5 := fun_mk (st := st_counts) l5 c5 k5
  have b5 := F5.binds (ps := ["rods", "most"]) fun _ _ _ _ _ _ us hl => match us, hl with | [_, _], _ => rfl
  have F6 := fun_mk (st := st_rest_product) l6 c6 k6
  have b6 := F6.binds (ps := ["one", "other", "items", "number"]) fun _ _ _ _ _ _ us hl => match us, hl with | [_, _, _, _], _ => rfl
  have F7 := fun_mk (st := st_great_count) l7 c7 k7
  have b7 := F7.binds (ps := ["rods", "length", "number"]) fun _ _ _ _ _ _ us hl => match us, hl with | [_, _, _], _ => rfl
  have F8 := fun_mk (st := st_is_rod) l8 c8 k8
  have b8 := F8.binds (ps := ["rods", "thing"]) fun _ _ _ _ _ _ us hl => match us, hl with | [_, _], _ => rfl
  have F9 := fun_mk (st := st_is_filled) l9 c9 k9
  have b9 := F9.binds (ps := ["rods", "length", "thing"]) fun _ _ _ _ _ _ us hl => match us, hl with | [_, _, _], _ => rfl
  have F10 := fun_mk (st := st_rank) l10 c10 k10
  have b10 := F10.binds (ps := ["rods", "row"]) fun _ _ _ _ _ _ us hl => match us, hl with | [_, _], _ => rfl
  have F11 := fun_mk (st := st_row_at) l11 c11 k11
  have b11 := F11.binds (ps := ["rods", "length", "place"]) fun _ _ _ _ _ _ us hl => match us, hl with | [_, _, _], _ => rfl
  have F12 := fun_mk (st := st_mirrored_counts) l12 c12 k12
  have b12 := F12.binds (ps := ["rods", "most"]) fun _ _ _ _ _ _ us hl => match us, hl with | [_, _], _ => rfl
  have F13 := fun_mk (st := st_unlike_counts) l13 c13 k13
  have b13 := F13.binds (ps := ["rods", "most"]) fun _ _ _ _ _ _ us hl => match us, hl with | [_, _], _ => rfl
  have F14 := fun_mk (st := st_round_counts) l14 c14 k14
  have b14 := F14.binds (ps := ["rods", "most"]) fun _ _ _ _ _ _ us hl => match us, hl with | [_, _], _ => rfl
  have F15 := fun_mk (st := st_fewest) l15 c15 k15
  have b15 := F15.binds (ps := ["rods", "length"]) fun _ _ _ _ _ _ us hl => match us, hl with | [_, _], _ => rfl
  have F16 := fun_mk (st := st_mean_rods) l16 c16 k16
  have b16 := F16.binds (ps := ["rods", "length"]) fun _ _ _ _ _ _ us hl => match us, hl with | [_, _], _ => rfl
  have F17 := fun_mk (st := st_broken_at) l17 c17 k17
  have b17 := F17.binds (ps := ["rods", "length", "place"]) fun _ _ _ _ _ _ us hl => match us, hl with | [_, _, _], _ => rfl
  have F18 := fun_mk (st := st__law_hand) l18 c18 k18
  have b18 := F18.binds (ps := ["script"]) fun _ _ _ _ _ _ us hl => match us, hl with | [_], _ => rfl
  have F19 := fun_mk (st := st__law_draw) l19 c19 k19
  have b19 := F19.binds (ps := ["hand", "many"]) fun _ _ _ _ _ _ us hl => match us, hl with | [_, _], _ => rfl
  have F20 := fun_mk (st := st__law_any) l20 c20 k20
  have b20 := F20.binds (ps := ["hand", "things"]) fun _ _ _ _ _ _ us hl => match us, hl with | [_, _], _ => rfl
  have F21 := fun_mk (st := st__law_like) l21 c21 k21
  have b21 := F21.binds (ps := ["told", "due"]) fun _ _ _ _ _ _ us hl => match us, hl with | [_, _], _ => rfl
  have F22 := fun_mk (st := st__law_rods) l22 c22 k22
  have b22 := F22.binds (ps := ["hand"]) fun _ _ _ _ _ _ us hl => match us, hl with | [_], _ => rfl
  have F23 := fun_mk (st := st__law_counts) l23 c23 k23
  have b23 := F23.binds (ps := ["rods", "most"]) fun _ _ _ _ _ _ us hl => match us, hl with | [_, _], _ => rfl
  have F24 := fun_mk (st := st__law_rank) l24 c24 k24
  have b24 := F24.binds (ps := ["rods", "rows", "row"]) fun _ _ _ _ _ _ us hl => match us, hl with | [_, _, _], _ => rfl
  have F25 := fun_mk (st := st__law_row) l25 c25 k25
  have b25 := F25.binds (ps := ["hand", "rods", "rows", "length"]) fun _ _ _ _ _ _ us hl => match us, hl with | [_, _, _, _], _ => rfl
  have F26 := fun_mk (st := st__law_led) l26 c26 k26
  have b26 := F26.binds (ps := ["one", "other", "rule", "number"]) fun _ _ _ _ _ _ us hl => match us, hl with | [_, _, _, _], _ => rfl
  have F27 := fun_mk (st := st__law_great) l27 c27 k27
  have b27 := F27.binds (ps := ["rods", "length", "number"]) fun _ _ _ _ _ _ us hl => match us, hl with | [_, _, _], _ => rfl
  have F28 := fun_mk (st := st__law_are_sums_right) l28 c28 k28
  have b28 := F28.binds (ps := ["hand", "rods", "most"]) fun _ _ _ _ _ _ us hl => match us, hl with | [_, _, _], _ => rfl
  have F29 := fun_mk (st := st__law_is_row_right) l29 c29 k29
  have b29 := F29.binds (ps := ["hand", "rods", "length"]) fun _ _ _ _ _ _ us hl => match us, hl with | [_, _, _], _ => rfl
  have F30 := fun_mk (st := st_law) l30 c30 k30
  have b30 := F30.binds (ps := ["script"]) fun _ _ _ _ _ _ us hl => match us, hl with | [_], _ => rfl
  have B : Bl mg := ⟨PySem.W.mg_none_of X G zlen, PySem.W.mg_none_of X G zsum, PySem.W.mg_none_of X G zrange, PySem.W.mg_none_of X G zall, PySem.W.mg_none_of X G zany, PySem.W.mg_none_of X G zzip, PySem.W.mg_none_of X G zenumerate, PySem.W.mg_none_of X G zisinstance, PySem.W.mg_none_of X G zint, PySem.W.mg_none_of X G zbool, PySem.W.mg_none_of X G zlist, PySem.W.mg_none_of X G ztuple, PySem.W.mg_none_of X G zdict, PySem.W.mg_none_of X G zabs, PySem.W.mg_none_of X G zmin, PySem.W.mg_none_of X G zmax, PySem.W.mg_none_of X G zsorted, PySem.W.mg_none_of X G zrepr⟩
  have MMOST_LENGTH : ∃ t, mg "MOST_LENGTH" = some (.int 60 t) := ⟨_, PySem.W.mg_of X G mMOST_LENGTH⟩
  have MMOST_LONG : ∃ t, mg "MOST_LONG" = some (.int 400 t) := ⟨_, PySem.W.mg_of X G mMOST_LONG⟩
  refine ⟨PySem.W.fnOf "law" "law" (defArgs st_law) (defBody st_law) (defScope st_law) .none kV30 dc30 pm30 an30 cd30 ct30, fun s v => .of_eq rfl, fun base _ _ => ?_⟩
  have G_is_integer := gal_is_integer (P := l.prog) (ww := w) (base := base) F0 (PySem.W.mg_of X G a0) b0 B
  have G_is_within := gal_is_within (P := l.prog) (ww := w) (base := base) F1 (PySem.W.mg_of X G a1) b1 B G_is_integer
  have G_is_row := gal_is_row (P := l.prog) (ww := w) (base := base) F2 (PySem.W.mg_of X G a2) b2 B
  have G_check_number := gal_check_number (P := l.prog) (ww := w) (base := base) F3 (PySem.W.mg_of X G a3) b3 B G_is_within
  have G_check_rods := gal_check_rods (P := l.prog) (ww := w) (base := base) F4 (PySem.W.mg_of X G a4) b4 B MMOST_LENGTH G_is_row G_is_within
  have G_counts := gal_counts (P := l.prog) (ww := w) (base := base) F5 (PySem.W.mg_of X G a5) b5 B MMOST_LONG G_check_rods G_check_number
  have G_rest_product := gal_rest_product (P := l.prog) (ww := w) (base := base) F6 (PySem.W.mg_of X G a6) b6 B
  have G_great_count := gal_great_count (P := l.prog) (ww := w) (base := base) F7 (PySem.W.mg_of X G a7) b7 B G_check_rods G_check_number G_rest_product G_counts
  have G_is_rod := gal_is_rod (P := l.prog) (ww := w) (base := base) F8 (PySem.W.mg_of X G a8) b8 B G_is_within
  have G_is_filled := gal_is_filled (P := l.prog) (ww := w) (base := base) F9 (PySem.W.mg_of X G a9) b9 B G_check_rods G_is_rod
  have G_rank := gal_rank (P := l.prog) (ww := w) (base := base) F10 (PySem.W.mg_of X G a10) b10 B G_check_rods G_is_rod G_counts
  have G_row_at := gal_row_at (P := l.prog) (ww := w) (base := base) F11 (PySem.W.mg_of X G a11) b11 B G_counts G_is_within
  have G_mirrored_counts := gal_mirrored_counts (P := l.prog) (ww := w) (base := base) F12 (PySem.W.mg_of X G a12) b12 B G_counts
  have G_unlike_counts := gal_unlike_counts (P := l.prog) (ww := w) (base := base) F13 (PySem.W.mg_of X G a13) b13 B G_mirrored_counts G_counts
  have G_round_counts := gal_round_counts (P := l.prog) (ww := w) (base := base) F14 (PySem.W.mg_of X G a14) b14 B G_counts
  have G_fewest := gal_fewest (P := l.prog) (ww := w) (base := base) F15 (PySem.W.mg_of X G a15) b15 B MMOST_LONG G_check_rods G_check_number
  have G_mean_rods := gal_mean_rods (P := l.prog) (ww := w) (base := base) F16 (PySem.W.mg_of X G a16) b16 B G_counts
  have G_broken_at := gal_broken_at (P := l.prog) (ww := w) (base := base) F17 (PySem.W.mg_of X G a17) b17 B G_counts G_check_number
  have G__law_hand := gal__law_hand (P := l.prog) (ww := w) (base := base) F18 (PySem.W.mg_of X G a18) b18 B
  have G__law_draw := gal__law_draw (P := l.prog) (ww := w) (base := base) F19 (PySem.W.mg_of X G a19) b19 B
  have G__law_any := gal__law_any (P := l.prog) (ww := w) (base := base) F20 (PySem.W.mg_of X G a20) b20 B G__law_draw
  have G__law_like := gal__law_like (P := l.prog) (ww := w) (base := base) F21 (PySem.W.mg_of X G a21) b21 B
  have G__law_rods := gal__law_rods (P := l.prog) (ww := w) (base := base) F22 (PySem.W.mg_of X G a22) b22 B G__law_any G__law_draw
  have G__law_counts := gal__law_counts (P := l.prog) (ww := w) (base := base) F23 (PySem.W.mg_of X G a23) b23 B
  have G__law_rank := gal__law_rank (P := l.prog) (ww := w) (base := base) F24 (PySem.W.mg_of X G a24) b24 B
  have G__law_row := gal__law_row (P := l.prog) (ww := w) (base := base) F25 (PySem.W.mg_of X G a25) b25 B G__law_any G__law_draw
  have G__law_led := gal__law_led (P := l.prog) (ww := w) (base := base) F26 (PySem.W.mg_of X G a26) b26 B
  have G__law_great := gal__law_great (P := l.prog) (ww := w) (base := base) F27 (PySem.W.mg_of X G a27) b27 B G__law_counts G__law_led
  have G__law_are_sums_right := gal__law_are_sums_right (P := l.prog) (ww := w) (base := base) F28 (PySem.W.mg_of X G a28) b28 B G__law_counts G_unlike_counts G_mirrored_counts G_counts G__law_like G_round_counts
  have G__law_is_row_right := gal__law_is_row_right (P := l.prog) (ww := w) (base := base) F29 (PySem.W.mg_of X G a29) b29 B G__law_counts G__law_row G__law_rank G__law_draw G_row_at G__law_like G_rank G_is_filled G_fewest G_broken_at G_mean_rods
  exact fnV F30 sc_law (body_law B G__law_hand G__law_rods G__law_are_sums_right G__law_draw G__law_counts G__law_is_row_right G__law_any G__law_like G__law_great G_great_count)
end K15
open PySem PySem.W PyProof.Rows
set_option maxHeartbeats 0 in
theorem PySem.Challenge.cw_tiledwhole_k15_whole_rods_of_eight_lengt_holds : PySem.Challenge.rw_tiledwhole_k15_whole_rods_of_eight_lengt.Holds := by
  w_on; o_law; k_head; (case hw => w_witness2)
  k_fill
  refine DL.walkG (l := PySem.Challenge.rw_tiledwhole_k15_whole_rods_of_eight_lengt) (n := 63) (k := 8) (x := "script") (f := K15.F_law) rfl (by decide) rfl ⟨rfl, by decide, by decide⟩ (fun w h Y => PySem.W.kIn_of Y) ?F (fun ns _ => K15.v_law ns)
  case F =>
    intro w mg fa h KX G hmg
    refine' K15.all_mk KX G hmg ?a0 ?l0 ?c0 ?k0 ?a1 ?l1 ?c1 ?k1 ?a2 ?l2 ?c2 ?k2 ?a3 ?l3 ?c3 ?k3 ?a4 ?l4 ?c4 ?k4 ?a5 ?l5 ?c5 ?k5 ?a6 ?l6 ?c6 ?k6 ?a7 ?l7 ?c7 ?k7 ?a8 ?l8 ?c8 ?k8 ?a9 ?l9 ?c9 ?k9 ?a10 ?l10 ?c10 ?k10 ?a11 ?l11 ?c11 ?k11 ?a12 ?l12 ?c12 ?k12 ?a13 ?l13 ?c13 ?k13 ?a14 ?l14 ?c14 ?k14 ?a15 ?l15 ?c15 ?k15 ?a16 ?l16 ?c16 ?k16 ?a17 ?l17 ?c17 ?k17 ?a18 ?l18 ?c18 ?k18 ?a19 ?l19 ?c19 ?k19 ?a20 ?l20 ?c20 ?k20 ?a21 ?l21 ?c21 ?k21 ?a22 ?l22 ?c22 ?k22 ?a23 ?l23 ?c23 ?k23 ?a24 ?l24 ?c24 ?k24 ?a25 ?l25 ?c25 ?k25 ?a26 ?l26 ?c26 ?k26 ?a27 ?l27 ?c27 ?k27 ?a28 ?l28 ?c28 ?k28 ?a29 ?l29 ?c29 ?k29 ?a30 ?l30 ?c30 ?k30 ?mMOST_LENGTH ?mMOST_LONG ?zlen ?zsum ?zrange ?zall ?zany ?zzip ?zenumerate ?zisinstance ?zint ?zbool ?zlist ?ztuple ?zdict ?zabs ?zmin ?zmax ?zsorted ?zrepr
    (case a0 => k_is); (case l0 => k_is); (case c0 => k_is); (case k0 => k_is); (case a1 => k_is); (case l1 => k_is); (case c1 => k_is); (case k1 => k_is); (case a2 => k_is); (case l2 => k_is); (case c2 => k_is); (case k2 => k_is); (case a3 => k_is); (case l3 => k_is); (case c3 => k_is); (case k3 => k_is); (case a4 => k_is); (case l4 => k_is); (case c4 => k_is); (case k4 => k_is); (case a5 => k_is); (case l5 => k_is); (case c5 => k_is); (case k5 => k_is); (case a6 => k_is); (case l6 => k_is); (case c6 => k_is); (case k6 => k_is); (case a7 => k_is); (case l7 => k_is); (case c7 => k_is); (case k7 => k_is); (case a8 => k_is); (case l8 => k_is); (case c8 => k_is); (case k8 => k_is); (case a9 => k_is); (case l9 => k_is); (case c9 => k_is); (case k9 => k_is); (case a10 => k_is); (case l10 => k_is); (case c10 => k_is); (case k10 => k_is); (case a11 => k_is); (case l11 => k_is); (case c11 => k_is); (case k11 => k_is); (case a12 => k_is); (case l12 => k_is); (case c12 => k_is); (case k12 => k_is); (case a13 => k_is); (case l13 => k_is); (case c13 => k_is); (case k13 => k_is); (case a14 => k_is); (case l14 => k_is); (case c14 => k_is); (case k14 => k_is); (case a15 => k_is); (case l15 => k_is); (case c15 => k_is); (case k15 => k_is); (case a16 => k_is); (case l16 => k_is); (case c16 => k_is); (case k16 => k_is); (case a17 => k_is); (case l17 => k_is); (case c17 => k_is); (case k17 => k_is); (case a18 => k_is); (case l18 => k_is); (case c18 => k_is); (case k18 => k_is); (case a19 => k_is); (case l19 => k_is); (case c19 => k_is); (case k19 => k_is); (case a20 => k_is); (case l20 => k_is); (case c20 => k_is); (case k20 => k_is); (case a21 => k_is); (case l21 => k_is); (case c21 => k_is); (case k21 => k_is); (case a22 => k_is); (case l22 => k_is); (case c22 => k_is); (case k22 => k_is); (case a23 => k_is); (case l23 => k_is); (case c23 => k_is); (case k23 => k_is); (case a24 => k_is); (case l24 => k_is); (case c24 => k_is); (case k24 => k_is); (case a25 => k_is); (case l25 => k_is); (case c25 => k_is); (case k25 => k_is); (case a26 => k_is); (case l26 => k_is); (case c26 => k_is); (case k26 => k_is); (case a27 => k_is); (case l27 => k_is); (case c27 => k_is); (case k27 => k_is); (case a28 => k_is); (case l28 => k_is); (case c28 => k_is); (case k28 => k_is); (case a29 => k_is); (case l29 => k_is); (case c29 => k_is); (case k29 => k_is); (case a30 => k_is); (case l30 => k_is); (case c30 => k_is); (case k30 => k_is); (case mMOST_LENGTH => k_is); (case mMOST_LONG => k_is); (case zlen => k_is); (case zsum => k_is); (case zrange => k_is); (case zall => k_is); (case zany => k_is); (case zzip => k_is); (case zenumerate => k_is); (case zisinstance => k_is); (case zint => k_is); (case zbool => k_is); (case zlist => k_is); (case ztuple => k_is); (case zdict => k_is); (case zabs => k_is); (case zmin => k_is); (case zmax => k_is); (case zsorted => k_is); (case zrepr => k_is)

