import PyProof.Rows.All
import Wide.All
import OpenK.AllK
import Wide.FinOn
import HandS.ForMost
import HandS.ForExc
import HandS.TupAny
import HandS.TupMul
import HandS.Wide
import HandS.Flow
import HandS.IsInst
import HandS.Style
import HandS.Zip
import HandS.RevRange
import HandS.ListEq
import KE.GoesEnum
import KE.GoesMore
import KE.GoesZip
import KE.KDictZip
import KE.KDictItemsList
import HandS.SortInts
import PyProof.Rows.SumGenD
import PyProof.Rows.InDataRows
import HandS.EndBits
import PyProof.ReprRoads
import HandS.Conv
import HandS.Head0
import HandS.Head1
import HandS.Head2
import HandS.HeadEnd
import HandS.HeadHook1
import HandS.HeadHook2
import HandS.HeadNt
import PySem.Challenge.RW_coinready_k43_payments_without_idle_coin
set_option Elab.async false
set_option linter.all false
set_option maxRecDepth 100000
set_option maxHeartbeats 4000000
/-! DL: a data layer over the hand layer: values with tuples by value, a store of what may change. -/
namespace DL
open PySem PySem.Spec PyProof.Rows L2

/-- a value: tuples by value; ref: a list, a dict, an instance in the store; fn: a def of the text by its name; lw: a list that never changes, by value -/
inductive D where
  | non | bl (b : Bool) | int (i : Int) | str (x : Str) | tup (xs : List D) | ref (a : Addr) | fn (x : Str) | ty (n : String) | lw (xs : List D)

/-- what may change -/
inductive Cell where
  | lst (xs : List D)

abbrev Sto := Addr → Option Cell
abbrev Nv := List (Option D)
def up1 (S : Sto) (a : Addr) (c : Cell) : Sto := fun b => if b = a then some c else S b
theorem up1_same {S : Sto} {a : Addr} {c : Cell} : up1 S a c a = some c := if_pos rfl
theorem up1_ne {S : Sto} {a b : Addr} {c : Cell} (h : b ≠ a) : up1 S a c b = S b := if_neg h

/-- a tuple: tracked, or of the written part -/
def TupA (K : PySem.W.Frag) (H : Hp) (a : Addr) (xs : List V) : Prop := H a = some (.tup xs) ∨
  ∃ (o : Obj) (its : Array Value) (n : Nat), K.lookup a = some o ∧ o.cls = .type "tuple" ∧ o.data = .seq its n ∧ its.size ≤ sizeLine ∧ Vals xs its.toList
theorem TupA.sq {K : PySem.W.Frag} {H : Hp} {a : Addr} {xs : List V} (h : TupA K H a xs) : SqT K H a xs := h.imp .inl id
/-- a list that is locked, or of the written part -/
def FrzL (K : PySem.W.Frag) (H : Hp) (a : Addr) (xs : List V) : Prop := (∃ o, H a = some (.frz o (.lst xs))) ∨
  ∃ (o : Obj) (its : Array Value) (n : Nat), K.lookup a = some o ∧ o.cls = .type "list" ∧ o.dict = none ∧ o.data = .seq its n ∧ its.size ≤ sizeLine ∧ Vals xs its.toList
theorem FrzL.sq {K : PySem.W.Frag} {H : Hp} {a : Addr} {xs : List V} (h : FrzL K H a xs) : SqL K H a xs := h.imp .inr id
/-- what never changes -/
structure Kp (H H' : Hp) : Prop where
  t : ∀ a xs, H a = some (.tup xs) → H' a = some (.tup xs)
  f : ∀ a o xs, H a = some (.frz o (.lst xs)) → H' a = some (.frz o (.lst xs))
theorem Kp.tup {K : PySem.W.Frag} {H H' : Hp} (k : Kp H H') {a : Addr} {xs : List V} (h : TupA K H a xs) : TupA K H' a xs := h.imp (k.t a xs) id
theorem Kp.frz {K : PySem.W.Frag} {H H' : Hp} (k : Kp H H') {a : Addr} {xs : List V} (h : FrzL K H a xs) : FrzL K H' a xs := h.imp (fun ⟨o, e⟩ => ⟨o, k.f a o xs e⟩) id
section
variable (K : PySem.W.Frag) (mg : Str → Option Value)
mutual
inductive Rp (H : Hp) : D → V → Prop where
  | non : Rp H .non .non
  | bl (b : Bool) : Rp H (.bl b) (.bl b)
  | int (i : Int) : Rp H (.int i) (.int i)
  | str (x : Str) : Rp H (.str x) (.str x)
  | ref (a : Addr) : Rp H (.ref a) (.ref a)
  | ty (n : String) : Rp H (.ty n) (.ty n)
  | fn {x : Str} {f : Addr} : mg x = some (.ref f) → Rp H (.fn x) (.ref f)
  | tup {a : Addr} {xs : List V} {ds : List D} : TupA K H a xs → RpL H ds xs → Rp H (.tup ds) (.ref a)
  | lw {a : Addr} {xs : List V} {ds : List D} : FrzL K H a xs → RpL H ds xs → Rp H (.lw ds) (.ref a)
inductive RpL (H : Hp) : List D → List V → Prop where
  | nil : RpL H [] []
  | cons {d : D} {v : V} {ds : List D} {vs : List V} : Rp H d v → RpL H ds vs → RpL H (d :: ds) (v :: vs)
end
end

section
variable {K : PySem.W.Frag} {mg : Str → Option Value} {H H' : Hp}
theorem RpL.length : ∀ {ds : List D} {vs : List V}, RpL K mg H ds vs → ds.length = vs.length
  | _, _, .nil => rfl
  | _, _, .cons _ t => congrArg (· + 1) (RpL.length t)
theorem RpL.get : ∀ {ds : List D} {vs : List V} {i : Nat} {d : D}, RpL K mg H ds vs → ds[i]? = some d → ∃ v, vs[i]? = some v ∧ Rp K mg H d v
  | _, _, i, _, .nil, e => by simp at e
  | _, _, 0, _, .cons r _, e => by simp at e; subst e; exact ⟨_, rfl, r⟩
  | _, _, i + 1, d, .cons _ t, e => by
    obtain ⟨v, h1, h2⟩ := RpL.get (i := i) (d := d) t (by simpa using e)
    exact ⟨v, by simpa using h1, h2⟩
theorem RpL.get' : ∀ {ds : List D} {vs : List V} {i : Nat} {v : V}, RpL K mg H ds vs → vs[i]? = some v → ∃ d, ds[i]? = some d ∧ Rp K mg H d v
  | _, _, i, _, .nil, e => by simp at e
  | _, _, 0, _, .cons r _, e => by simp at e; subst e; exact ⟨_, rfl, r⟩
  | _, _, i + 1, v, .cons _ t, e => by
    obtain ⟨d, h1, h2⟩ := RpL.get' (i := i) (v := v) t (by simpa using e)
    exact ⟨d, by simpa using h1, h2⟩
theorem RpL.set {d : D} {v : V} (r : Rp K mg H d v) : ∀ {ds : List D} {vs : List V} (i : Nat), RpL K mg H ds vs → RpL K mg H (ds.set i d) (vs.set i v)
  | _, _, _, .nil => .nil
  | _, _, 0, .cons _ t => .cons r t
  | _, _, i + 1, .cons q t => .cons q (RpL.set r i t)
theorem RpL.append : ∀ {ds es : List D} {vs ws : List V}, RpL K mg H ds vs → RpL K mg H es ws → RpL K mg H (ds ++ es) (vs ++ ws)
  | _, _, _, _, .nil, s => s
  | _, _, _, _, .cons r t, s => .cons r (RpL.append t s)
theorem RpL.take : ∀ {ds : List D} {vs : List V} (n : Nat), RpL K mg H ds vs → RpL K mg H (ds.take n) (vs.take n)
  | _, _, 0, _ => .nil
  | _, _, _ + 1, .nil => .nil
  | _, _, n + 1, .cons r t => .cons r (RpL.take n t)
theorem RpL.drop : ∀ {ds : List D} {vs : List V} (n : Nat), RpL K mg H ds vs → RpL K mg H (ds.drop n) (vs.drop n)
  | _, _, 0, r => r
  | _, _, _ + 1, .nil => .nil
  | _, _, n + 1, .cons _ t => RpL.drop n t
theorem RpL.eraseIdx : ∀ {ds : List D} {vs : List V} (n : Nat), RpL K mg H ds vs → RpL K mg H (ds.eraseIdx n) (vs.eraseIdx n)
  | _, _, _, .nil => .nil
  | _, _, 0, .cons _ t => t
  | _, _, n + 1, .cons r t => .cons r (RpL.eraseIdx n t)
theorem RpL.one {d : D} {v : V} (r : Rp K mg H d v) : RpL K mg H [d] [v] := .cons r .nil
theorem RpL.reverse : ∀ {ds : List D} {vs : List V}, RpL K mg H ds vs → RpL K mg H ds.reverse vs.reverse
  | _, _, .nil => .nil
  | _, _, .cons r t => by
    rw [List.reverse_cons, List.reverse_cons]
    exact (RpL.reverse t).append (.one r)
theorem RpL.rep {ds : List D} {vs : List V} (h : RpL K mg H ds vs) : ∀ k : Nat, RpL K mg H (List.replicate k ds).flatten (List.replicate k vs).flatten
  | 0 => .nil
  | k + 1 => by
    rw [List.replicate_succ, List.replicate_succ, List.flatten_cons, List.flatten_cons]
    exact h.append (RpL.rep h k)
theorem RpL.ints : ∀ {ns : List Int} {vs : List V}, RpL K mg H (ns.map D.int) vs → vs = ns.map V.int
  | [], _, .nil => rfl
  | _ :: _, _, .cons r t => by cases r; rw [RpL.ints t]; rfl
theorem RpL.of_ints : ∀ (ns : List Int), RpL K mg H (ns.map D.int) (ns.map V.int)
  | [] => .nil
  | n :: r => .cons (.int n) (RpL.of_ints r)
theorem RpL.bls : ∀ {ns : List Bool} {vs : List V}, RpL K mg H (ns.map D.bl) vs → vs = ns.map V.bl
  | [], _, .nil => rfl
  | _ :: _, _, .cons r t => by cases r; rw [RpL.bls t]; rfl
theorem RpL.strs : ∀ {ns : List Str} {vs : List V}, RpL K mg H (ns.map D.str) vs → vs = ns.map V.str
  | [], _, .nil => rfl
  | _ :: _, _, .cons r t => by cases r; rw [RpL.strs t]; rfl
mutual
theorem Rp.mono (k : Kp H H') : ∀ {d : D} {v : V}, Rp K mg H d v → Rp K mg H' d v
  | _, _, .non => .non
  | _, _, .bl b => .bl b
  | _, _, .int i => .int i
  | _, _, .str x => .str x
  | _, _, .ref a => .ref a
  | _, _, .fn e => .fn e
  | _, _, .ty n => .ty n
  | _, _, .tup s r => .tup (k.tup s) (RpL.mono k r)
  | _, _, .lw s r => .lw (k.frz s) (RpL.mono k r)
theorem RpL.mono (k : Kp H H') : ∀ {ds : List D} {vs : List V}, RpL K mg H ds vs → RpL K mg H' ds vs
  | _, _, .nil => .nil
  | _, _, .cons r t => .cons (Rp.mono k r) (RpL.mono k t)
end
end

/-- how a cell stands in the heap -/
inductive RpC (K : PySem.W.Frag) (mg : Str → Option Value) (H : Hp) : Cell → HO → Prop where
  | lst {ds : List D} {xs : List V} : RpL K mg H ds xs → RpC K mg H (.lst ds) (.lst xs)
def StO (K : PySem.W.Frag) (mg : Str → Option Value) (S : Sto) (H : Hp) : Prop := ∀ a c, S a = some c → ∃ o, H a = some o ∧ RpC K mg H c o
/-- how the slots stand -/
structure RpS (K : PySem.W.Frag) (mg : Str → Option Value) (H : Hp) (ρ : Nv) (σ : L2.St) : Prop where
  len : ρ.length = σ.length
  get : ∀ (i : Nat) (d : D), ρ[i]? = some (some d) → ∃ v, σ[i]? = some (some v) ∧ Rp K mg H d v
/-- from (S, H) to (S', H') -/
structure Tr (S : Sto) (H : Hp) (S' : Sto) (H' : Hp) : Prop where
  keep : ∀ a o, H a = some o → S a = none → H' a = some o
  new : ∀ a, S a = none → S' a ≠ none → H a = none
section
variable {K : PySem.W.Frag} {mg : Str → Option Value} {S S' S1 S2 : Sto} {H H' H1 H2 : Hp}
theorem Tr.refl (S : Sto) (H : Hp) : Tr S H S H := ⟨fun _ _ h _ => h, fun _ h h' => absurd h h'⟩
theorem Tr.trans (a : Tr S H S1 H1) (b : Tr S1 H1 S2 H2) : Tr S H S2 H2 := by
  refine ⟨fun p o h n => b.keep p o (a.keep p o h n) ?_, fun p n q => ?_⟩
  · cases e : S1 p with
    | none => rfl
    | some c =>
      have z := a.new p n (by rw [e]; exact fun z => nomatch z)
      rw [h] at z; cases z
  · cases e : S1 p with
    | some c => exact a.new p n (by rw [e]; exact fun z => nomatch z)
    | none =>
      have z := b.new p e q
      cases e2 : H p with
      | none => rfl
      | some o => rw [a.keep p o e2 n] at z; cases z
theorem StO.free (s : StO K mg S H) {a : Addr} (h : H a = none) : S a = none := by
  cases e : S a with
  | none => rfl
  | some c =>
    obtain ⟨o, q, _⟩ := s a c e
    rw [h] at q; cases q
theorem StO.notup (s : StO K mg S H) {a : Addr} {xs : List V} (h : H a = some (.tup xs)) : S a = none := by
  cases e : S a with
  | none => rfl
  | some c =>
    obtain ⟨o, q, r⟩ := s a c e
    rw [h] at q; cases q; cases r
theorem StO.nofrz (s : StO K mg S H) {a : Addr} {xs : List V} {o : Obj} {c : Cell} (h : H a = some (.frz o (.lst xs))) (e : S a = some c) : False := by
  obtain ⟨o, q, r⟩ := s a c e
  rw [h] at q; cases q; cases r
theorem Tr.sqT (t : Tr S H S' H') (s : StO K mg S H) (a : Addr) (xs : List V) (h : TupA K H a xs) : TupA K H' a xs := by
  rcases h with h | h
  · exact .inl (t.keep _ _ h (s.notup h))
  · exact .inr h
theorem Tr.kp (t : Tr S H S' H') (s : StO K mg S H) : Kp H H' := ⟨fun a xs h => t.keep _ _ h (s.notup h), fun a o xs h => by
  cases e : S a with
  | none => exact t.keep _ _ h e
  | some c => exact (s.nofrz h e).elim⟩
theorem Tr.rp (t : Tr S H S' H') (s : StO K mg S H) {d : D} {v : V} (r : Rp K mg H d v) : Rp K mg H' d v := r.mono (t.kp s)
theorem Tr.rpL (t : Tr S H S' H') (s : StO K mg S H) {d : List D} {v : List V} (r : RpL K mg H d v) : RpL K mg H' d v := r.mono (t.kp s)
theorem Tr.rpS (t : Tr S H S' H') (s : StO K mg S H) {ρ : Nv} {σ : L2.St} (r : RpS K mg H ρ σ) : RpS K mg H' ρ σ :=
  ⟨r.len, fun i d e => let ⟨v, h1, h2⟩ := r.get i d e; ⟨v, h1, t.rp s h2⟩⟩
theorem RpS.set {ρ : Nv} {σ : L2.St} (r : RpS K mg H ρ σ) {d : D} {v : V} (q : Rp K mg H d v) (i : Nat) : RpS K mg H (ρ.set i (some d)) (σ.set i (some v)) := by
  refine ⟨by rw [List.length_set, List.length_set]; exact r.len, fun j e h => ?_⟩
  by_cases hj : i = j
  · subst hj
    have hl : i < ρ.length := by
      have := (List.getElem?_eq_some_iff.mp h).1
      rwa [List.length_set] at this
    rw [List.getElem?_set_self hl] at h
    cases h
    exact ⟨v, List.getElem?_set_self (by rw [← r.len]; exact hl), q⟩
  · rw [List.getElem?_set_ne hj] at h
    rw [List.getElem?_set_ne hj]
    exact r.get j e h
theorem RpS.forget {ρ : Nv} {σ : L2.St} (r : RpS K mg H ρ σ) (i : Nat) : RpS K mg H (ρ.set i none) (σ.set i none) := by
  refine ⟨by rw [List.length_set, List.length_set]; exact r.len, fun j e h => ?_⟩
  by_cases hj : i = j
  · subst hj
    have hl : i < ρ.length := by
      have := (List.getElem?_eq_some_iff.mp h).1
      rwa [List.length_set] at this
    rw [List.getElem?_set_self hl] at h
    cases h
  · rw [List.getElem?_set_ne hj] at h
    rw [List.getElem?_set_ne hj]
    exact r.get j e h
/-- a new thing of the heap that the store does not know -/
theorem Tr.laidH {p : Addr} {o : HO} (h : H p = none) : Tr S H S (upd H p o) :=
  ⟨fun a u e _ => by rw [upd_ne (ne_of_none e h)]; exact e, fun _ h h' => absurd h h'⟩
theorem Tr.laid {p : Addr} {o : HO} {c : Cell} (h : H p = none) : Tr S H (up1 S p c) (upd H p o) :=
  ⟨fun a u e _ => by rw [upd_ne (ne_of_none e h)]; exact e, fun a n q => by
    by_cases e : a = p
    · rw [e]; exact h
    · rw [up1_ne e] at q; exact absurd n q⟩
theorem Tr.wrote {p : Addr} {o : HO} {c c' : Cell} (h : S p = some c') : Tr S H (up1 S p c) (upd H p o) :=
  ⟨fun a u e n => by
    have ne : a ≠ p := fun z => by rw [z, h] at n; cases n
    rw [upd_ne ne]; exact e, fun a n q => by
    have ne : a ≠ p := fun z => by rw [z, h] at n; cases n
    rw [up1_ne ne] at q; exact absurd n q⟩
theorem RpC.mono {c : Cell} {o : HO} (k : Kp H H') (r : RpC K mg H c o) : RpC K mg H' c o := by
  cases r with
  | lst r => exact .lst (r.mono k)
theorem StO.laidH {p : Addr} {o : HO} (s : StO K mg S H) (h : H p = none) : StO K mg S (upd H p o) := fun a c e => by
  obtain ⟨u, q, r⟩ := s a c e
  exact ⟨u, by rw [upd_ne (ne_of_none q h)]; exact q, r.mono ((Tr.laidH h).kp s)⟩
theorem StO.laid {p : Addr} {o : HO} {c : Cell} (s : StO K mg S H) (h : H p = none) (r : RpC K mg H c o) : StO K mg (up1 S p c) (upd H p o) := fun a u e => by
  have k := (Tr.laid (S := S) (o := o) (c := c) h).kp s
  by_cases z : a = p
  · subst z
    rw [up1_same] at e; cases e
    exact ⟨o, upd_same, r.mono k⟩
  · rw [up1_ne z] at e
    obtain ⟨v, q, r'⟩ := s a u e
    exact ⟨v, by rw [upd_ne z]; exact q, r'.mono k⟩
theorem StO.wrote {p : Addr} {o : HO} {c c' : Cell} (s : StO K mg S H) (h : S p = some c') (r : RpC K mg H c o) : StO K mg (up1 S p c) (upd H p o) := fun a u e => by
  have k := (Tr.wrote (H := H) (o := o) (c := c) h).kp s
  by_cases z : a = p
  · subst z
    rw [up1_same] at e; cases e
    exact ⟨o, upd_same, r.mono k⟩
  · rw [up1_ne z] at e
    obtain ⟨v, q, r'⟩ := s a u e
    exact ⟨v, by rw [upd_ne z]; exact q, r'.mono k⟩
/-- a list that may be read -/
def LA (S : Sto) (a : Addr) (ds : List D) : Prop := S a = some (.lst ds)
theorem StO.sqL {a : Addr} {ds : List D} (s : StO K mg S H) (h : LA S a ds) : ∃ xs, SqL K H a xs ∧ RpL K mg H ds xs := by
  obtain ⟨o, q, r⟩ := s a _ h
  cases r with
  | lst r => exact ⟨_, .inl (.inl q), r⟩
theorem StO.lst {a : Addr} {ds : List D} (s : StO K mg S H) (h : S a = some (.lst ds)) : ∃ xs, H a = some (.lst xs) ∧ RpL K mg H ds xs := by
  obtain ⟨o, q, r⟩ := s a _ h
  cases r with
  | lst r => exact ⟨_, q, r⟩
end
end DL

set_option Elab.async false
set_option linter.all false
set_option maxRecDepth 100000
set_option maxHeartbeats 4000000
namespace DL
open PySem PySem.Spec PyProof.Rows L2

abbrev DQ := D → Sto → Prop
abbrev DE := Nv → Sto → DQ → Prop
abbrev DT := Nv → Sto → (Bool → Sto → Prop) → Prop
abbrev DA := Nv → Sto → (List D → Sto → Prop) → Prop
/-- a made exception: its class by name, its attributes -/
structure Exc where
  cls : Str
  fs : List (Str × D)
abbrev EXn := Exc → Nv → Sto → Prop

/-- what follows, at (S, H) -/
def Kt (K : PySem.W.Frag) (mg : Str → Option Value) (S : Sto) (H : Hp) (P : DQ) (Q : VK) : Prop :=
  ∀ d S' v H', Tr S H S' H' → StO K mg S' H' → Rp K mg H' d v → P d S' → Q v H'
def KtL (K : PySem.W.Frag) (mg : Str → Option Value) (S : Sto) (H : Hp) (P : List D → Sto → Prop) (Q : List V → Hp → Prop) : Prop :=
  ∀ d S' v H', Tr S H S' H' → StO K mg S' H' → RpL K mg H' d v → P d S' → Q v H'
def KtB (K : PySem.W.Frag) (mg : Str → Option Value) (S : Sto) (H : Hp) (P : Bool → Sto → Prop) (Q : Bool → Hp → Prop) : Prop :=
  ∀ b S' H', Tr S H S' H' → StO K mg S' H' → P b S' → Q b H'
section
variable {K : PySem.W.Frag} {mg : Str → Option Value} {S S1 : Sto} {H H1 : Hp}
theorem Kt.at {P : DQ} {Q : VK} (k : Kt K mg S H P Q) (t : Tr S H S1 H1) : Kt K mg S1 H1 P Q := fun d S' v H' t' => k d S' v H' (t.trans t')
theorem KtL.at {P : List D → Sto → Prop} {Q : List V → Hp → Prop} (k : KtL K mg S H P Q) (t : Tr S H S1 H1) : KtL K mg S1 H1 P Q := fun d S' v H' t' => k d S' v H' (t.trans t')
theorem KtB.at {P : Bool → Sto → Prop} {Q : Bool → Hp → Prop} (k : KtB K mg S H P Q) (t : Tr S H S1 H1) : KtB K mg S1 H1 P Q := fun d S' H' t' => k d S' H' (t.trans t')
theorem Kt.now {P : DQ} {Q : VK} (k : Kt K mg S H P Q) (s : StO K mg S H) {d : D} {v : V} (r : Rp K mg H d v) (p : P d S) : Q v H := k d S v H (Tr.refl S H) s r p
/-- a new list -/
theorem Kt.newL {P : DQ} {Q : VK} (k : Kt K mg S H P Q) (s : StO K mg S H) {ds : List D} {xs : List V} (r : RpL K mg H ds xs) (p : ∀ a, S a = none → P (.ref a) (up1 S a (.lst ds))) :
    ∀ a, H a = none → Q (.ref a) (upd H a (.lst xs)) := fun a h =>
  k _ _ _ _ (Tr.laid h) (s.laid h (.lst r)) (.ref a) (p a (s.free h))
/-- a new tuple -/
theorem Kt.newT {P : DQ} {Q : VK} (k : Kt K mg S H P Q) (s : StO K mg S H) {ds : List D} {xs : List V} (r : RpL K mg H ds xs) (p : P (.tup ds) S) :
    ∀ a, H a = none → Q (.ref a) (upd H a (.tup xs)) := fun a h =>
  k _ _ _ _ (Tr.laidH h) (s.laidH h) (.tup (.inl upd_same) (r.mono ((Tr.laidH h).kp s))) p
end

/-! ### readings of the layer over readings by data -/
structure Zb where
  S : Sto
  H : Hp
def upE (K : PySem.W.Frag) (mg : Str → Option Value) (Z : Zb) (t : DE) : TE := fun σ H Q => ∃ ρ S P, RpS K mg H ρ σ ∧ StO K mg S H ∧ Tr Z.S Z.H S H ∧ t ρ S P ∧ Kt K mg S H P Q
def upT (K : PySem.W.Frag) (mg : Str → Option Value) (Z : Zb) (t : DT) : TT := fun σ H Q => ∃ ρ S P, RpS K mg H ρ σ ∧ StO K mg S H ∧ Tr Z.S Z.H S H ∧ t ρ S P ∧ KtB K mg S H P Q
def upA (K : PySem.W.Frag) (mg : Str → Option Value) (Z : Zb) (t : DA) : TA := fun σ H Q => ∃ ρ S P, RpS K mg H ρ σ ∧ StO K mg S H ∧ Tr Z.S Z.H S H ∧ t ρ S P ∧ KtL K mg S H P Q
def SE (X : Cx) (Z : Zb) (e : Expr) (t : DE) : Prop := PE X e (upE X.K X.mg Z t)
def ST (X : Cx) (Z : Zb) (e : Expr) (t : DT) : Prop := PT X e (upT X.K X.mg Z t)
def SW (X : Cx) (Z : Zb) (e : Expr) (t : DT) : Prop := PW X e (upT X.K X.mg Z t)
def SA (X : Cx) (Z : Zb) (es : List Expr) (t : DA) : Prop := PA X es (upA X.K X.mg Z t)
theorem peI {X : Cx} {e : Expr} {t t' : TE} (h : PE X e t) (i : ∀ σ H Q, t' σ H Q → t σ H Q) : PE X e t' := ⟨fun pins s σ H Q I q => h.run pins s σ H Q I (i σ H Q q)⟩
theorem ptI {X : Cx} {e : Expr} {t t' : TT} (h : PT X e t) (i : ∀ σ H Q, t' σ H Q → t σ H Q) : PT X e t' := ⟨fun pins s σ H Q I q => h.run pins s σ H Q I (i σ H Q q)⟩
theorem pwI {X : Cx} {e : Expr} {t t' : TT} (h : PW X e t) (i : ∀ σ H Q, t' σ H Q → t σ H Q) : PW X e t' := ⟨fun wh pins s σ H Q I q => h.run wh pins s σ H Q I (i σ H Q q)⟩
theorem paI {X : Cx} {e : List Expr} {t t' : TA} (h : PA X e t) (i : ∀ σ H Q, t' σ H Q → t σ H Q) : PA X e t' := ⟨fun pos pins s σ H Q I q => h.run pos pins s σ H Q I (i σ H Q q)⟩

section
variable {X : Cx} {Z : Zb} {a b c e : Expr} {es : List Expr} {ta tb tc te : DE} {pos : Pos}
/-- the step ahead: from a reading by data to the reading by values -/
theorem upE.go {σ : L2.St} {H : Hp} {ρ : Nv} {S : Sto} {P : DQ} {Q : VK} (r : RpS X.K X.mg H ρ σ) (s : StO X.K X.mg S H) (z : Tr Z.S Z.H S H) (h : ta ρ S P) (k : Kt X.K X.mg S H P Q) : upE X.K X.mg Z ta σ H Q := ⟨ρ, S, P, r, s, z, h, k⟩

/-! ### constants and names -/
def dC (d : D) : DE := fun _ S Q => Q d S
theorem s_int {i j} : SE X Z (.Constant (.int i) j pos) (dC (.int i)) := peI pe_int fun _ _ _ ⟨_, _, _, _, s, _, h, k⟩ => k.now s (.int i) h
theorem s_bl {i j} : SE X Z (.Constant (.bool i) j pos) (dC (.bl i)) := peI pe_bl fun _ _ _ ⟨_, _, _, _, s, _, h, k⟩ => k.now s (.bl i) h
theorem s_non {j} : SE X Z (.Constant .none j pos) (dC .non) := peI pe_non fun _ _ _ ⟨_, _, _, _, s, _, h, k⟩ => k.now s .non h
theorem s_str {i j} : SE X Z (.Constant (.str i) j pos) (dC (.str i)) := peI pe_str fun _ _ _ ⟨_, _, _, _, s, _, h, k⟩ => k.now s (.str i) h
def dVar (i : Nat) : DE := fun ρ S Q => ∃ d, ρ[i]? = some (some d) ∧ Q d S
theorem s_var {i : Nat} {x : Str} (hN : X.N[i]? = some x) (hv : Vis X.env.scope x) (h1 : (x == ("__debug__" : Str)) = false) (h2 : (x == ("__classdict__" : Str)) = false) : SE X Z (.Name x pos) (dVar i) :=
  peI (pe_var hN hv h1 h2) fun _ _ _ ⟨_, _, _, r, s, _, ⟨d, e, h⟩, k⟩ => by
    obtain ⟨v, hv, rv⟩ := r.get i d e
    exact ⟨v, hv, k.now s rv h⟩
theorem s_glob {x : Str} {d : D} {v : V} {u : Value} (hg : Gl X x) (hm : X.mg x = some u) (r : RelV v u) (hr : ∀ H, Rp X.K X.mg H d v) (hd : (x == ("__debug__" : Str)) = false) : SE X Z (.Name x pos) (dC d) :=
  peI (pe_glob hg hm r hd) fun _ _ _ ⟨_, _, _, _, s, _, h, k⟩ => k.now s (hr _) h

/-! ### argument lists, displays -/
def dNil : DA := fun _ S Q => Q [] S
def dCons (t : DE) (u : DA) : DA := fun ρ S Q => t ρ S fun d S1 => u ρ S1 fun ds S2 => Q (d :: ds) S2
theorem s_nil : SA X Z [] dNil := paI pa_nil fun _ H _ ⟨_, S, _, _, s, _, h, k⟩ => k [] S [] H (Tr.refl _ _) s .nil h
theorem s_cons {t : DA} (he : SE X Z e te) (hr : SA X Z es t) (hs : starEach (e :: es) X.env = (false, eval e X.env) :: starEach es X.env) : SA X Z (e :: es) (dCons te t) := by
  refine paI (pa_cons he hr hs) fun σ H Q ⟨ρ, S, P, r, s, z, h, k⟩ => ?_
  refine ⟨ρ, S, _, r, s, z, h, fun d S1 v H1 t1 s1 rd h1 => ?_⟩
  refine ⟨ρ, S1, _, t1.rpS s r, s1, z.trans t1, h1, fun ds S2 vs H2 t2 s2 rds h2 => ?_⟩
  exact k _ _ _ _ (t1.trans t2) s2 (.cons (t2.rp s1 rd) rds) h2
def dTup (t : DA) : DE := fun ρ S Q => t ρ S fun ds S1 => ds.length ≤ sizeLine ∧ Q (.tup ds) S1
def dLst (t : DA) : DE := fun ρ S Q => t ρ S fun ds S1 => ds.length ≤ sizeLine ∧ ∀ p, S1 p = none → Q (.ref p) (up1 S1 p (.lst ds))
theorem s_tup {t : DA} {x1} (h : SA X Z es t) : SE X Z (.Tuple es x1 pos) (dTup t) := by
  refine peI (pe_tup h) fun σ H Q ⟨ρ, S, P, r, s, z, h, k⟩ => ?_
  refine ⟨ρ, S, _, r, s, z, h, fun ds S1 vs H1 t1 s1 rds ⟨hl, h1⟩ => ⟨by rw [← rds.length]; exact hl, ?_⟩⟩
  exact (k.at t1).newT s1 rds h1
theorem s_lst {t : DA} (h : SA X Z es t) : SE X Z (.List es pos) (dLst t) := by
  refine peI (pe_lst h) fun σ H Q ⟨ρ, S, P, r, s, z, h, k⟩ => ?_
  refine ⟨ρ, S, _, r, s, z, h, fun ds S1 vs H1 t1 s1 rds ⟨hl, h1⟩ => ⟨by rw [← rds.length]; exact hl, ?_⟩⟩
  exact (k.at t1).newL s1 rds h1

/-! ### two-place operations by values -/
abbrev D2 := D → D → Sto → DQ → Prop
def Op2 (K : PySem.W.Frag) (mg : Str → Option Value) (r : R2) (o : D2) : Prop :=
  ∀ S H x y v u P Q, StO K mg S H → Rp K mg H x v → Rp K mg H y u → o x y S P → Kt K mg S H P Q → r v u H Q
def dOp (o : D2) (ta tb : DE) : DE := fun ρ S Q => ta ρ S fun x S1 => tb ρ S1 fun y S2 => o x y S2 Q
theorem up_op {r : R2} {o : D2} (ho : Op2 X.K X.mg r o) : ∀ σ H Q, upE X.K X.mg Z (dOp o ta tb) σ H Q → tOp r (upE X.K X.mg Z ta) (upE X.K X.mg Z tb) σ H Q := by
  rintro σ H Q ⟨ρ, S, P, rr, s, z, h, k⟩
  refine ⟨ρ, S, _, rr, s, z, h, fun x S1 v H1 t1 s1 rx h1 => ?_⟩
  refine ⟨ρ, S1, _, t1.rpS s rr, s1, z.trans t1, h1, fun y S2 u H2 t2 s2 ry h2 => ?_⟩
  exact ho S2 H2 x y v u P Q s2 (t2.rp s1 rx) ry h2 (k.at (t1.trans t2))
theorem s_op {op : Operator} {r : R2} {o : D2} (h : OpR X (binaryOp op) r) (ho : Op2 X.K X.mg r o) (ha : SE X Z a ta) (hb : SE X Z b tb) : SE X Z (.BinOp a op b pos) (dOp o ta tb) :=
  peI (pe_op h ha hb) (up_op ho)
theorem s_cmp {op : CmpOp} {r : R2} {o : D2} (h : OpR X (compareOp op) r) (ho : Op2 X.K X.mg r o) (ha : SE X Z a ta) (hb : SE X Z b tb) (hm : behindInMarks op b = false) : SE X Z (.Compare a [op] [b] pos) (dOp o ta tb) :=
  peI (pe_cmpR h ha hb hm) (up_op ho)
/-- a value that is a truth, as a test -/
def dB (t : DE) : DT := fun ρ S Q => t ρ S fun x S1 => ∃ k, x = .bl k ∧ Q k S1
theorem up_test {t : TE} (hh : ∀ σ H Q, upE X.K X.mg Z te σ H Q → t σ H Q) : ∀ σ H Q, upT X.K X.mg Z (dB te) σ H Q → tTest t σ H Q := by
  rintro σ H Q ⟨ρ, S, P, rr, s, z, h, k⟩
  refine hh _ _ _ ⟨ρ, S, _, rr, s, z, h, fun x S1 v H1 t1 s1 rx h1 => ?_⟩
  obtain ⟨b, rfl, h1⟩ := h1
  cases rx
  exact ⟨b, rfl, k _ _ _ t1 s1 h1⟩
theorem s_cmpT {op : CmpOp} {r : R2} {o : D2} (h : OpR X (compareOp op) r) (ho : Op2 X.K X.mg r o) (ha : SE X Z a ta) (hb : SE X Z b tb) (hm : behindInMarks op b = false) : ST X Z (.Compare a [op] [b] pos) (dB (dOp o ta tb)) :=
  ptI (pt_cmpR h ha hb hm) (up_test (up_op ho))
/-- a < b < c -/
def dChain (o o' : D2) (ta tb tc : DE) : DE := fun ρ S Q => ta ρ S fun x S1 => tb ρ S1 fun y S2 => o x y S2 fun z S3 => ∃ k, z = .bl k ∧ if k = true then tc ρ S3 fun w S4 => o' y w S4 Q else Q (.bl false) S3
theorem up_chain {r r' : R2} {o o' : D2} (ho : Op2 X.K X.mg r o) (ho' : Op2 X.K X.mg r' o') : ∀ σ H Q, upE X.K X.mg Z (dChain o o' ta tb tc) σ H Q → tChain r r' (upE X.K X.mg Z ta) (upE X.K X.mg Z tb) (upE X.K X.mg Z tc) σ H Q := by
  rintro σ H Q ⟨ρ, S, P, rr, s, z, h, k⟩
  refine ⟨ρ, S, _, rr, s, z, h, fun x S1 v H1 t1 s1 rx h1 => ?_⟩
  refine ⟨ρ, S1, _, t1.rpS s rr, s1, z.trans t1, h1, fun y S2 u H2 t2 s2 ry h2 => ?_⟩
  refine ho S2 H2 x y v u _ _ s2 (t2.rp s1 rx) ry h2 fun d S3 w H3 t3 s3 rd h3 => ?_
  obtain ⟨c, rfl, h3⟩ := h3
  cases rd
  refine ⟨c, rfl, ?_⟩
  have t13 := (t1.trans t2).trans t3
  cases c with
  | false =>
    rw [if_neg Bool.false_ne_true] at h3 ⊢
    exact (k.at t13).now s3 (.bl false) h3
  | true =>
    rw [if_pos rfl] at h3 ⊢
    refine ⟨ρ, S3, _, t13.rpS s rr, s3, z.trans t13, h3, fun w2 S4 v4 H4 t4 s4 r4 h4 => ?_⟩
    exact ho' S4 H4 y w2 u v4 P Q s4 (t4.rp s3 (t3.rp s2 ry)) r4 h4 (k.at (t13.trans t4))
theorem s_chain {op op' : CmpOp} {r r' : R2} {o o' : D2} (h : OpR X (compareOp op) r) (h' : OpR X (compareOp op') r') (ho : Op2 X.K X.mg r o) (ho' : Op2 X.K X.mg r' o') (ha : SE X Z a ta) (hb : SE X Z b tb) (hc : SE X Z c tc) (hm : lastMarks [op, op'] [b, c] = false) :
    SE X Z (.Compare a [op, op'] [b, c] pos) (dChain o o' ta tb tc) := peI (pe_chain h h' ha hb hc hm) (up_chain ho ho')
theorem s_chainT {op op' : CmpOp} {r r' : R2} {o o' : D2} (h : OpR X (compareOp op) r) (h' : OpR X (compareOp op') r') (ho : Op2 X.K X.mg r o) (ho' : Op2 X.K X.mg r' o') (ha : SE X Z a ta) (hb : SE X Z b tb) (hc : SE X Z c tc) (hm : lastMarks [op, op'] [b, c] = false) :
    ST X Z (.Compare a [op, op'] [b, c] pos) (dB (dChain o o' ta tb tc)) := ptI (pt_chain h h' ha hb hc hm) (up_test (up_chain ho ho'))

/-! ### truth, and, or, not, if -/
/-- a value's truth -/
def truD : D → Sto → (Bool → Sto → Prop) → Prop
  | .non, S, Q => Q false S
  | .bl b, S, Q => Q b S
  | .int i, S, Q => Q (i != 0) S
  | .str y, S, Q => y.length ≤ sizeLine ∧ Q ((y.length : Int) != 0) S
  | .tup xs, S, Q => Q (!xs.isEmpty) S
  | .ref a, S, Q => ∃ xs, LA S a xs ∧ Q (!xs.isEmpty) S
  | .fn _, _, _ => False
  | .ty _, _, _ => False
  | .lw _, _, _ => False
theorem RpL.emp {K : PySem.W.Frag} {mg : Str → Option Value} {H : Hp} {ds : List D} {xs : List V} (r : RpL K mg H ds xs) : xs.isEmpty = ds.isEmpty := by
  cases r <;> rfl
theorem truV_of {K : PySem.W.Frag} {mg : Str → Option Value} {S : Sto} {H : Hp} {d : D} {v : V} {P : Bool → Sto → Prop} (s : StO K mg S H) (r : Rp K mg H d v) (h : truD d S P) : ∃ k, TruV K v H k ∧ P k S := by
  cases r with
  | non => exact ⟨_, rfl, h⟩
  | bl b => exact ⟨_, rfl, h⟩
  | int i => exact ⟨_, rfl, h⟩
  | str x => exact ⟨_, ⟨h.1, rfl⟩, h.2⟩
  | ref a =>
    obtain ⟨xs, l, h⟩ := h
    obtain ⟨vs, sq, rl⟩ := s.sqL l
    exact ⟨_, .inl ⟨vs, sq, rfl⟩, by rw [rl.emp]; exact h⟩
  | fn e => exact h.elim
  | ty n => exact h.elim
  | lw _ _ => exact h.elim
  | tup sq rl => exact ⟨_, .inr (.inl ⟨_, sq.sq, rfl⟩), by rw [rl.emp]; exact h⟩
def dTru (ta : DE) : DT := fun ρ S Q => ta ρ S fun x S1 => truD x S1 Q
theorem s_truth (ha : SE X Z a ta) (he : ∀ whole, isTrue a X.env whole = (do let v ← whole; standAt a.pos; holding [v] (truthy v))) : ST X Z a (dTru ta) := by
  refine ptI (pt_truth ha he) fun σ H Q ⟨ρ, S, P, r, s, z, h, k⟩ => ?_
  refine ⟨ρ, S, _, r, s, z, h, fun x S1 v H1 t1 s1 rx h1 => ?_⟩
  obtain ⟨b, tv, p⟩ := truV_of s1 rx h1
  exact ⟨b, tv, k _ _ _ t1 s1 p⟩
variable {tA tB tC : DT} {rest : List Expr}
def dAndT (t u : DT) : DT := fun ρ S Q => t ρ S fun c S1 => if c = true then u ρ S1 Q else Q false S1
def dOrT (t u : DT) : DT := fun ρ S Q => t ρ S fun c S1 => if c = true then Q true S1 else u ρ S1 Q
def dNotT (t : DT) : DT := fun ρ S Q => t ρ S fun c S1 => Q (!c) S1
theorem s_and1 (ha : ST X Z a tA) : SW X Z (.BoolOp .And [a] pos) tA := pw_and1 ha
theorem s_or1 (ha : ST X Z a tA) : SW X Z (.BoolOp .Or [a] pos) tA := pw_or1 ha
theorem s_andT (ha : ST X Z a tA) (hb : SW X Z (.BoolOp .And (b :: rest) pos) tB) : SW X Z (.BoolOp .And (a :: b :: rest) pos) (dAndT tA tB) := by
  refine pwI (pw_and ha hb) fun σ H Q ⟨ρ, S, P, r, s, z, h, k⟩ => ?_
  refine ⟨ρ, S, _, r, s, z, h, fun c S1 H1 t1 s1 h1 => ?_⟩
  cases c with
  | true => exact ⟨ρ, S1, _, t1.rpS s r, s1, z.trans t1, h1, k.at t1⟩
  | false => exact k _ _ _ t1 s1 h1
theorem s_orT (ha : ST X Z a tA) (hb : SW X Z (.BoolOp .Or (b :: rest) pos) tB) : SW X Z (.BoolOp .Or (a :: b :: rest) pos) (dOrT tA tB) := by
  refine pwI (pw_or ha hb) fun σ H Q ⟨ρ, S, P, r, s, z, h, k⟩ => ?_
  refine ⟨ρ, S, _, r, s, z, h, fun c S1 H1 t1 s1 h1 => ?_⟩
  cases c with
  | true => exact k _ _ _ t1 s1 h1
  | false => exact ⟨ρ, S1, _, t1.rpS s r, s1, z.trans t1, h1, k.at t1⟩
theorem s_wt (h : SW X Z a tA) : ST X Z a tA := h.pt
theorem s_notT (ha : ST X Z a tA) : ST X Z (.UnaryOp .Not a pos) (dNotT tA) := by
  refine ptI (pt_not ha) fun σ H Q ⟨ρ, S, P, r, s, z, h, k⟩ => ?_
  exact ⟨ρ, S, _, r, s, z, h, fun c S1 H1 t1 s1 h1 => k _ _ _ t1 s1 h1⟩
/-- .. as values -/
def dAndV (ta tb : DE) : DE := fun ρ S Q => ta ρ S fun x S1 => truD x S1 fun c S2 => if c = true then tb ρ S2 Q else Q x S2
def dOrV (ta tb : DE) : DE := fun ρ S Q => ta ρ S fun x S1 => truD x S1 fun c S2 => if c = true then Q x S2 else tb ρ S2 Q
def dNotV (ta : DE) : DE := fun ρ S Q => ta ρ S fun x S1 => truD x S1 fun c S2 => Q (.bl (!c)) S2
theorem truD_st {d : D} {S : Sto} {P : Bool → Sto → Prop} (h : truD d S P) : ∃ b, P b S ∧ truD d S (fun b' S' => b' = b ∧ S' = S) := by
  cases d with
  | non => exact ⟨_, h, rfl, rfl⟩
  | bl b => exact ⟨_, h, rfl, rfl⟩
  | int i => exact ⟨_, h, rfl, rfl⟩
  | str x => exact ⟨_, h.2, h.1, rfl, rfl⟩
  | tup xs => exact ⟨_, h, rfl, rfl⟩
  | ref a => obtain ⟨xs, l, h⟩ := h; exact ⟨_, h, xs, l, rfl, rfl⟩
  | fn x => exact h.elim
  | ty n => exact h.elim
  | lw _ => exact h.elim
theorem s_one {op} (h : SE X Z a ta) : SE X Z (.BoolOp op [a] pos) ta := pe_one h
theorem s_and (ha : SE X Z a ta) (hb : SE X Z (.BoolOp .And (b :: rest) pos) tb) : SE X Z (.BoolOp .And (a :: b :: rest) pos) (dAndV ta tb) := by
  refine peI (pe_andT ha hb) fun σ H Q ⟨ρ, S, P, r, s, z, h, k⟩ => ?_
  refine ⟨ρ, S, _, r, s, z, h, fun x S1 v H1 t1 s1 rx h1 => ?_⟩
  obtain ⟨c, tv, h1⟩ := truV_of s1 rx h1
  refine ⟨c, tv, ?_⟩
  cases c with
  | true => exact ⟨ρ, S1, _, t1.rpS s r, s1, z.trans t1, h1, k.at t1⟩
  | false => exact k _ _ _ _ t1 s1 rx h1
theorem s_or (ha : SE X Z a ta) (hb : SE X Z (.BoolOp .Or (b :: rest) pos) tb) : SE X Z (.BoolOp .Or (a :: b :: rest) pos) (dOrV ta tb) := by
  refine peI (pe_orT ha hb) fun σ H Q ⟨ρ, S, P, r, s, z, h, k⟩ => ?_
  refine ⟨ρ, S, _, r, s, z, h, fun x S1 v H1 t1 s1 rx h1 => ?_⟩
  obtain ⟨c, tv, h1⟩ := truV_of s1 rx h1
  refine ⟨c, tv, ?_⟩
  cases c with
  | true => exact k _ _ _ _ t1 s1 rx h1
  | false => exact ⟨ρ, S1, _, t1.rpS s r, s1, z.trans t1, h1, k.at t1⟩
theorem s_not (ha : SE X Z a ta) : SE X Z (.UnaryOp .Not a pos) (dNotV ta) := by
  refine peI (pe_notT ha) fun σ H Q ⟨ρ, S, P, r, s, z, h, k⟩ => ?_
  refine ⟨ρ, S, _, r, s, z, h, fun x S1 v H1 t1 s1 rx h1 => ?_⟩
  obtain ⟨c, tv, h1⟩ := truV_of s1 rx h1
  exact ⟨c, tv, k _ _ _ _ t1 s1 (.bl _) h1⟩
def dIf (t : DT) (ta tb : DE) : DE := fun ρ S Q => t ρ S fun c S1 => if c = true then ta ρ S1 Q else tb ρ S1 Q
theorem s_ifExp (hc : ST X Z c tA) (ha : SE X Z a ta) (hb : SE X Z b tb) : SE X Z (.IfExp c a b pos) (dIf tA ta tb) := by
  refine peI (pe_ifExp hc ha hb) fun σ H Q ⟨ρ, S, P, r, s, z, h, k⟩ => ?_
  refine ⟨ρ, S, _, r, s, z, h, fun c S1 H1 t1 s1 h1 => ?_⟩
  cases c with
  | true => exact ⟨ρ, S1, _, t1.rpS s r, s1, z.trans t1, h1, k.at t1⟩
  | false => exact ⟨ρ, S1, _, t1.rpS s r, s1, z.trans t1, h1, k.at t1⟩

/-! ### one-place operations -/
abbrev D1 := D → Sto → DQ → Prop
def Op1 (K : PySem.W.Frag) (mg : Str → Option Value) (r : V → Hp → VK → Prop) (o : D1) : Prop :=
  ∀ S H x v P Q, StO K mg S H → Rp K mg H x v → o x S P → Kt K mg S H P Q → r v H Q
def dUn (o : D1) (ta : DE) : DE := fun ρ S Q => ta ρ S fun x S1 => o x S1 Q
theorem s_un {op : UnaryOp} {r : V → Hp → VK → Prop} {o : D1} (h : UnR X (unaryOp op) r) (ho : Op1 X.K X.mg r o) (ha : SE X Z a ta) : SE X Z (.UnaryOp op a pos) (dUn o ta) := by
  refine peI (pe_un h ha) fun σ H Q ⟨ρ, S, P, r, s, z, h, k⟩ => ?_
  exact ⟨ρ, S, _, r, s, z, h, fun x S1 v H1 t1 s1 rx h1 => ho S1 H1 x v P Q s1 rx h1 (k.at t1)⟩

/-! ### calls of built-in things by values -/
abbrev DN := List D → Sto → DQ → Prop
def OpN (K : PySem.W.Frag) (mg : Str → Option Value) (r : List V → Hp → VK → Prop) (o : DN) : Prop :=
  ∀ S H xs vs P Q, StO K mg S H → RpL K mg H xs vs → o xs S P → Kt K mg S H P Q → r vs H Q
def dCall (o : DN) (t : DA) : DE := fun ρ S Q => t ρ S fun xs S1 => o xs S1 Q
theorem s_callB {x : Str} {id : String} {r : List V → Hp → VK → Prop} {o : DN} {t : DA} {p : Pos} (hc : CallR X (.builtin id) r) (ho : OpN X.K X.mg r o) (hg : Gl X x) (hm : X.mg x = none) (hv : bootBuiltins x = some (.builtin id)) (ha : SA X Z (e :: es) t) (hn : x ≠ "__name__") (hdb : (x == ("__debug__" : Str)) = false)
    (he : starEach (e :: es) X.env = (false, eval e X.env) :: starEach es X.env) (hpl : (backTo pos (starEach es X.env)).any (·.1) = false) : SE X Z (.Call (.Name x p) (e :: es) [] pos) (dCall o t) := by
  refine peI (pe_callB hc hg hm hv ha hn hdb he hpl) fun σ H Q ⟨ρ, S, P, r, s, z, h, k⟩ => ?_
  exact ⟨ρ, S, _, r, s, z, h, fun xs S1 vs H1 t1 s1 rx h1 => ho S1 H1 xs vs P Q s1 rx h1 (k.at t1)⟩
theorem s_callTy {x : Str} {T : String} {r : List V → Hp → VK → Prop} {o : DN} {t : DA} {p : Pos} (hc : CallR X (.type T) r) (ho : OpN X.K X.mg r o) (hg : Gl X x) (hm : X.mg x = none) (hv : bootBuiltins x = some (.type T)) (ha : SA X Z (e :: es) t) (hn : x ≠ "__name__") (hdb : (x == ("__debug__" : Str)) = false)
    (he : starEach (e :: es) X.env = (false, eval e X.env) :: starEach es X.env) (hpl : (backTo pos (starEach es X.env)).any (·.1) = false) : SE X Z (.Call (.Name x p) (e :: es) [] pos) (dCall o t) := by
  refine peI (pe_callTy hc hg hm hv ha hn hdb he hpl) fun σ H Q ⟨ρ, S, P, r, s, z, h, k⟩ => ?_
  exact ⟨ρ, S, _, r, s, z, h, fun xs S1 vs H1 t1 s1 rx h1 => ho S1 H1 xs vs P Q s1 rx h1 (k.at t1)⟩

/-! ### subscripts, slices -/
theorem s_ix {r : R2} {o : D2} (h : IxR X r) (ho : Op2 X.K X.mg r o) (ha : SE X Z a ta) (hb : SE X Z b tb) (hs : PlainIx b) : SE X Z (.Subscript a b pos) (dOp o ta tb) :=
  peI (pe_ix h ha hb hs) (up_op ho)
abbrev DO := Nv → Sto → (Option Int → Sto → Prop) → Prop
def upO (K : PySem.W.Frag) (mg : Str → Option Value) (Z : Zb) (t : DO) : TO := fun σ H Q => ∃ ρ S P, RpS K mg H ρ σ ∧ StO K mg S H ∧ Tr Z.S Z.H S H ∧ t ρ S P ∧ ∀ o S' H', Tr S H S' H' → StO K mg S' H' → P o S' → Q o H'
def SO (X : Cx) (Z : Zb) (e : Option Expr) (t : DO) : Prop := PO X e (upO X.K X.mg Z t)
theorem poI {e : Option Expr} {t t' : TO} (h : PO X e t) (i : ∀ σ H Q, t' σ H Q → t σ H Q) : PO X e t' := by
  obtain ⟨h⟩ := h
  exact ⟨fun pins s σ H Q I q => h pins s σ H Q I (i σ H Q q)⟩
def dNoPart : DO := fun _ S Q => Q none S
def dPart (t : DE) : DO := fun ρ S Q => t ρ S fun x S1 => ∃ i, x = .int i ∧ Q (some i) S1
theorem s_noPart : SO X Z none dNoPart := poI po_none fun σ H Q ⟨ρ, S, P, r, s, z, h, k⟩ => k _ _ _ (Tr.refl _ _) s h
theorem s_part (he : SE X Z e te) : SO X Z (some e) (dPart te) := poI (po_some he) fun σ H Q ⟨ρ, S, P, r, s, z, h, k⟩ =>
  ⟨ρ, S, _, r, s, z, h, fun x S1 v H1 t1 s1 rx ⟨i, ex, h1⟩ => by subst ex; cases rx; exact ⟨i, rfl, k _ _ _ t1 s1 h1⟩⟩
abbrev DSl := D → Option Int → Option Int → Sto → DQ → Prop
def OpSl (K : PySem.W.Frag) (mg : Str → Option Value) (r : V → Option Int → Option Int → Hp → VK → Prop) (o : DSl) : Prop :=
  ∀ S H x v lo hi P Q, StO K mg S H → Rp K mg H x v → o x lo hi S P → Kt K mg S H P Q → r v lo hi H Q
def dSl (o : DSl) (te : DE) (tl th : DO) : DE := fun ρ S Q => te ρ S fun x S1 => tl ρ S1 fun l S2 => th ρ S2 fun u S3 => o x l u S3 Q
theorem s_slice {r : V → Option Int → Option Int → Hp → VK → Prop} {o : DSl} {lo hi : Option Expr} {tl th : DO} {p2 : Pos} (hr : SlR X r) (ho : OpSl X.K X.mg r o) (he : SE X Z e te) (hl : SO X Z lo tl) (hu : SO X Z hi th) :
    SE X Z (.Subscript e (.Slice lo hi none p2) pos) (dSl o te tl th) := by
  refine peI (pe_slice hr he hl hu) fun σ H Q ⟨ρ, S, P, r, s, z, h, k⟩ => ?_
  refine ⟨ρ, S, _, r, s, z, h, fun x S1 v H1 t1 s1 rx h1 => ?_⟩
  refine ⟨ρ, S1, _, t1.rpS s r, s1, z.trans t1, h1, fun l S2 H2 t2 s2 h2 => ?_⟩
  refine ⟨ρ, S2, _, (t1.trans t2).rpS s r, s2, z.trans (t1.trans t2), h2, fun u S3 H3 t3 s3 h3 => ?_⟩
  exact ho S3 H3 x v l u P Q s3 ((t2.trans t3).rp s1 rx) h3 (k.at ((t1.trans t2).trans t3))

/-! ### methods of built-in types -/
abbrev DM := D → List D → Sto → DQ → Prop
def OpM (K : PySem.W.Frag) (mg : Str → Option Value) (r : V → List V → Hp → VK → Prop) (o : DM) : Prop :=
  ∀ S H x xs v vs P Q, StO K mg S H → Rp K mg H x v → RpL K mg H xs vs → o x xs S P → Kt K mg S H P Q → r v vs H Q
/-- x is of the built-in type T -/
def tyD (T : String) (x : D) (S : Sto) : Prop := match x with
  | .str _ => T = "str"
  | .ref a => T = "list" ∧ ∃ ds, LA S a ds
  | .tup _ => T = "tuple"
  | _ => False
def dBM (T : String) (o : DM) (to : DE) (t : DA) : DE := fun ρ S Q => to ρ S fun x S1 => tyD T x S1 ∧ t ρ S1 fun xs S2 => o x xs S2 Q
end
end DL

set_option Elab.async false
set_option linter.all false
set_option maxRecDepth 100000
set_option maxHeartbeats 4000000
namespace DL
open PySem PySem.Spec PyProof.Rows L2

/-! ### methods of built-in types -/
section
variable {X : Cx} {Z : Zb} {a b c e o : Expr} {es : List Expr} {ta tb tc te to : DE} {pos apos cpos : Pos} {name : Str} {T id : String}
theorem tyV_of {K : PySem.W.Frag} {mg : Str → Option Value} {S : Sto} {H : Hp} {d : D} {v : V} (s : StO K mg S H) (r : Rp K mg H d v) (h : tyD T d S) (ht : T ≠ "tuple") : tyV K T v H := by
  cases r with
  | str x => exact h
  | ref a =>
    obtain ⟨h1, ds, l⟩ := h
    obtain ⟨xs, sq, _⟩ := s.sqL l
    exact .inl ⟨h1, xs, sq⟩
  | tup _ _ => exact absurd h ht
  | non => exact h.elim
  | bl _ => exact h.elim
  | int _ => exact h.elim
  | fn _ => exact h.elim
  | ty _ => exact h.elim
  | lw _ _ => exact h.elim
theorem s_bm {r : V → List V → Hp → VK → Prop} {o' : DM} {t : DA} (pa : PlainAttrs T) (slot : Slot T name id) (hty : typeOf (.builtin id) = pure (.type "method_descriptor")) (hm : MtR X id r) (ho : OpM X.K X.mg r o') (hT : T ≠ "tuple") (hv : SE X Z o to) (ha : SA X Z (e :: es) t)
    (hbase : attributeBase o name X.env (eval o X.env) = eval o X.env)
    (hfew : ((backTo cpos (starEach (e :: es) X.env)).all (fun x => !x.1) && (backToKw cpos (keywordEach [] X.env)).all (fun x => x.1.isSome)
      && decide ((e :: es).length + ([] : List Keyword).length + (if ([] : List Keyword).isEmpty then 0 else 1) < 30)) = true)
    (hline : (apos.endLine == cpos.line) = true) (hs : starEach (e :: es) X.env = (false, eval e X.env) :: starEach es X.env) (hplain : (backTo cpos (starEach es X.env)).any (·.1) = false) :
    SE X Z (.Call (.Attribute o name apos) (e :: es) [] cpos) (dBM T o' to t) := by
  refine peI (pe_bm pa slot hty hm hv ha hbase hfew hline hs hplain) fun σ H Q ⟨ρ, S, P, r, s, z, h, k⟩ => ?_
  refine ⟨ρ, S, _, r, s, z, h, fun x S1 v H1 t1 s1 rx ⟨ty, h1⟩ => ⟨tyV_of s1 rx ty hT, ?_⟩⟩
  refine ⟨ρ, S1, _, t1.rpS s r, s1, z.trans t1, h1, fun xs S2 vs H2 t2 s2 rxs h2 => ?_⟩
  exact ho S2 H2 x xs v vs P Q s2 (t2.rp s1 rx) rxs h2 (k.at (t1.trans t2))
def dBM0 (T : String) (o : DM) (to : DE) : DE := fun ρ S Q => to ρ S fun x S1 => tyD T x S1 ∧ o x [] S1 Q
theorem s_bm0 {r : V → List V → Hp → VK → Prop} {o' : DM} (pa : PlainAttrs T) (slot : Slot T name id) (hty : typeOf (.builtin id) = pure (.type "method_descriptor")) (hm : MtR X id r) (ho : OpM X.K X.mg r o') (hT : T ≠ "tuple") (hv : SE X Z o to)
    (hbase : attributeBase o name X.env (eval o X.env) = eval o X.env) (hline : (apos.endLine == cpos.line) = true) : SE X Z (.Call (.Attribute o name apos) [] [] cpos) (dBM0 T o' to) := by
  refine peI (pe_bm0 pa slot hty hm hv hbase hline) fun σ H Q ⟨ρ, S, P, r, s, z, h, k⟩ => ?_
  exact ⟨ρ, S, _, r, s, z, h, fun x S1 v H1 t1 s1 rx ⟨ty, h1⟩ => ⟨tyV_of s1 rx ty hT, ho S1 H1 x [] v [] P Q s1 rx .nil h1 (k.at t1)⟩⟩
end

/-! ### statements -/
structure DEnds where
  nx : Nv → Sto → Prop
  rt : DQ
  bk : Nv → Sto → Prop := fun _ _ => False
  ct : Nv → Sto → Prop := fun _ _ => False
abbrev DS := DEnds → Nv → Sto → Prop
abbrev DG := D → Nv → Sto → (Nv → Sto → Prop) → Prop
abbrev DGs := List D → Nv → Sto → (Nv → Sto → Prop) → Prop
def KtP (K : PySem.W.Frag) (mg : Str → Option Value) (S : Sto) (H : Hp) (P : Nv → Sto → Prop) (Q : L2.St → Hp → Prop) : Prop :=
  ∀ ρ' S' σ' H', Tr S H S' H' → StO K mg S' H' → RpS K mg H' ρ' σ' → P ρ' S' → Q σ' H'
structure KtS (K : PySem.W.Frag) (mg : Str → Option Value) (S : Sto) (H : Hp) (D : DEnds) (T : Ends) : Prop where
  nx : KtP K mg S H D.nx T.nx
  rt : Kt K mg S H D.rt T.rt
  bk : KtP K mg S H D.bk T.bk
  ct : KtP K mg S H D.ct T.ct
section
variable {K : PySem.W.Frag} {mg : Str → Option Value} {S S1 : Sto} {H H1 : Hp}
theorem KtP.at {P : Nv → Sto → Prop} {Q : L2.St → Hp → Prop} (k : KtP K mg S H P Q) (t : Tr S H S1 H1) : KtP K mg S1 H1 P Q := fun ρ' S' σ' H' t' => k ρ' S' σ' H' (t.trans t')
theorem KtS.at {D : DEnds} {T : Ends} (k : KtS K mg S H D T) (t : Tr S H S1 H1) : KtS K mg S1 H1 D T := ⟨k.nx.at t, k.rt.at t, k.bk.at t, k.ct.at t⟩
end
def upS (K : PySem.W.Frag) (mg : Str → Option Value) (Z : Zb) (t : DS) : TS := fun T σ H => ∃ ρ S D, RpS K mg H ρ σ ∧ StO K mg S H ∧ Tr Z.S Z.H S H ∧ t D ρ S ∧ KtS K mg S H D T
/-- the slots outside of vs as they were -/
def Out (vs : List Nat) (σ σ' : L2.St) : Prop := σ'.length = σ.length ∧ ∀ j, j ∉ vs → σ'[j]? = σ[j]?
theorem Out.refl (vs : List Nat) (σ : L2.St) : Out vs σ σ := ⟨rfl, fun _ _ => rfl⟩
theorem Out.trans {vs : List Nat} {σ σ1 σ2 : L2.St} (a : Out vs σ σ1) (b : Out vs σ1 σ2) : Out vs σ σ2 := ⟨b.1.trans a.1, fun j h => (b.2 j h).trans (a.2 j h)⟩
def upG (K : PySem.W.Frag) (mg : Str → Option Value) (Z : Zb) (vs : List Nat) (g : DG) : TG := fun v σ H Q => ∃ d ρ S P, Rp K mg H d v ∧ RpS K mg H ρ σ ∧ StO K mg S H ∧ Tr Z.S Z.H S H ∧ g d ρ S P ∧
  ∀ ρ' S' σ' H', Tr S H S' H' → StO K mg S' H' → RpS K mg H' ρ' σ' → Out vs σ σ' → P ρ' S' → Q σ' H'
def upGs (K : PySem.W.Frag) (mg : Str → Option Value) (Z : Zb) (vs : List Nat) (g : DGs) : TGs := fun v σ H Q => ∃ d ρ S P, RpL K mg H d v ∧ RpS K mg H ρ σ ∧ StO K mg S H ∧ Tr Z.S Z.H S H ∧ g d ρ S P ∧
  ∀ ρ' S' σ' H', Tr S H S' H' → StO K mg S' H' → RpS K mg H' ρ' σ' → Out vs σ σ' → P ρ' S' → Q σ' H'
def SS (X : Cx) (Z : Zb) (st : Stmt) (t : DS) : Prop := PS X st (upS X.K X.mg Z t)
def SSs (X : Cx) (Z : Zb) (st : List Stmt) (t : DS) : Prop := PSs X st (upS X.K X.mg Z t)
def SG (X : Cx) (Z : Zb) (vs : List Nat) (tg : Expr) (g : DG) : Prop := PG X tg (upG X.K X.mg Z vs g)
def SGs (X : Cx) (Z : Zb) (vs : List Nat) (tg : List Expr) (g : DGs) : Prop := PGs X tg (upGs X.K X.mg Z vs g)
theorem psI {X : Cx} {st : Stmt} {t t' : TS} (h : PS X st t) (i : ∀ D σ H, t' D σ H → t D σ H) : PS X st t' := ⟨fun pins s σ H D I q => h.run pins s σ H D I (i D σ H q)⟩
theorem pssI {X : Cx} {st : List Stmt} {t t' : TS} (h : PSs X st t) (i : ∀ D σ H, t' D σ H → t D σ H) : PSs X st t' := ⟨fun pins s σ H D I q => h.run pins s σ H D I (i D σ H q)⟩
theorem pgI {X : Cx} {tg : Expr} {t t' : TG} (h : PG X tg t) (i : ∀ v σ H Q, t' v σ H Q → t v σ H Q) : PG X tg t' := ⟨fun pins s σ H v u Q I r q => h.run pins s σ H v u Q I r (i v σ H Q q)⟩
theorem pgsI {X : Cx} {tg : List Expr} {t t' : TGs} (h : PGs X tg t) (i : ∀ v σ H Q, t' v σ H Q → t v σ H Q) : PGs X tg t' := ⟨fun pins s σ H v u Q I r q => h.run pins s σ H v u Q I r (i v σ H Q q)⟩

section
variable {X : Cx} {Z : Zb} {a b c e o : Expr} {es : List Expr} {ta tb tc te to : DE} {pos : Pos} {st : Stmt} {rest body : List Stmt} {t u : DS} {vs : List Nat}
def dNext : DS := fun D ρ S => D.nx ρ S
def dSeq (t u : DS) : DS := fun D ρ S => t { D with nx := u D } ρ S
theorem ss_nil : SSs X Z [] dNext := pssI pss_nil fun T σ H ⟨ρ, S, D, r, s, z, h, k⟩ => k.nx _ _ _ _ (Tr.refl _ _) s r h
theorem ss_cons (h1 : SS X Z st t) (h2 : SSs X Z rest u) : SSs X Z (st :: rest) (dSeq t u) := by
  refine pssI (pss_cons h1 h2) fun T σ H ⟨ρ, S, D, r, s, z, h, k⟩ => ?_
  exact ⟨ρ, S, _, r, s, z, h, ⟨fun ρ' S' σ' H' t' s' r' h' => ⟨ρ', S', D, r', s', z.trans t', h', k.at t'⟩, k.rt, k.bk, k.ct⟩⟩
theorem ss_one (h1 : SS X Z st t) : SSs X Z [st] t := pss_one h1
def dBreak : DS := fun D ρ S => D.bk ρ S
def dCont : DS := fun D ρ S => D.ct ρ S
theorem ss_pass : SS X Z (.Pass pos) dNext := psI ps_pass fun T σ H ⟨ρ, S, D, r, s, z, h, k⟩ => k.nx _ _ _ _ (Tr.refl _ _) s r h
theorem ss_break : SS X Z (.Break pos) dBreak := psI ps_break fun T σ H ⟨ρ, S, D, r, s, z, h, k⟩ => k.bk _ _ _ _ (Tr.refl _ _) s r h
theorem ss_continue : SS X Z (.Continue pos) dCont := psI ps_continue fun T σ H ⟨ρ, S, D, r, s, z, h, k⟩ => k.ct _ _ _ _ (Tr.refl _ _) s r h
def dDrop (te : DE) : DS := fun D ρ S => te ρ S fun _ S1 => D.nx ρ S1
theorem ss_expr (he : SE X Z e te) (hs : swapsWith e none pos.line X.env = pure false) : SS X Z (.Expr e pos) (dDrop te) :=
  psI (ps_expr he hs) fun T σ H ⟨ρ, S, D, r, s, z, h, k⟩ => ⟨ρ, S, _, r, s, z, h, fun d S1 v H1 t1 s1 rd h1 => k.nx _ _ _ _ t1 s1 (t1.rpS s r) h1⟩
def dRet (te : DE) : DS := fun D ρ S => te ρ S D.rt
theorem ss_ret (he : SE X Z e te) : SS X Z (.Return (some e) pos) (dRet te) :=
  psI (ps_ret he) fun T σ H ⟨ρ, S, D, r, s, z, h, k⟩ => ⟨ρ, S, _, r, s, z, h, k.rt⟩
def dRetN : DS := fun D _ S => D.rt .non S
theorem ss_retN : SS X Z (.Return none pos) dRetN :=
  psI ps_retN fun T σ H ⟨ρ, S, D, r, s, z, h, k⟩ => k.rt.now s .non h
def dIfS (c : DT) (t u : DS) : DS := fun D ρ S => c ρ S fun b S1 => if b = true then t D ρ S1 else u D ρ S1
theorem ss_if {x y : List Stmt} {tA : DT} (hc : ST X Z c tA) (ha : SSs X Z x t) (hb : SSs X Z y u) : SS X Z (.If c x y pos) (dIfS tA t u) := by
  refine psI (ps_if hc ha hb) fun T σ H ⟨ρ, S, D, r, s, z, h, k⟩ => ?_
  refine ⟨ρ, S, _, r, s, z, h, fun b S1 H1 t1 s1 h1 => ?_⟩
  cases b with
  | true => exact ⟨ρ, S1, D, t1.rpS s r, s1, z.trans t1, h1, k.at t1⟩
  | false => exact ⟨ρ, S1, D, t1.rpS s r, s1, z.trans t1, h1, k.at t1⟩
/-- never come to -/
def dNever : DS := fun _ _ _ => False
theorem ss_never : SS X Z st dNever := psI ps_never fun T σ H ⟨ρ, S, D, r, s, z, h, k⟩ => h.elim

/-! ### targets -/
def gSet (i : Nat) : DG := fun d ρ S Q => Q (ρ.set i (some d)) S
theorem sg_name {i : Nat} {x : Str} (hN : X.N.Nodup) (hi : X.N[i]? = some x) (hx : Loc X.env.scope x) (hf : X.fn x = true ∨ X.env.scope.names.lookup x = some .local) (hv : i ∈ vs) : SG X Z vs (.Name x pos) (gSet i) :=
  pgI (pg_name hN hi hx hf) fun v σ H Q ⟨d, ρ, S, P, rd, r, s, z, h, k⟩ => k _ _ _ _ (Tr.refl _ _) s (r.set rd i) ⟨List.length_set .., fun j hj => List.getElem?_set_ne fun q => hj (by rw [← q]; exact hv)⟩ h
def gNil : DGs := fun ds ρ S Q => ds = [] ∧ Q ρ S
def gCons (t : DG) (u : DGs) : DGs := fun ds ρ S Q => match ds with
  | [] => False
  | d :: r => t d ρ S fun ρ' S' => u r ρ' S' Q
theorem sgs_nil : SGs X Z vs [] gNil := pgsI pgs_nil fun v σ H Q ⟨ds, ρ, S, P, rd, r, s, z, ⟨e, h⟩, k⟩ => by
  subst e
  cases rd
  exact ⟨rfl, k _ _ _ _ (Tr.refl _ _) s r (Out.refl _ _) h⟩
theorem sgs_cons {t : DG} {u : DGs} (h1 : SG X Z vs e t) (h2 : SGs X Z vs es u) (hs : (assignEach (e :: es) X.env).map (·.2) = assign e X.env :: (assignEach es X.env).map (·.2)) : SGs X Z vs (e :: es) (gCons t u) := by
  refine pgsI (pgs_cons h1 h2 hs) fun v σ H Q ⟨ds, ρ, S, P, rd, r, s, z, h, k⟩ => ?_
  cases rd with
  | nil => exact h.elim
  | cons rd rds =>
    refine ⟨_, _, rfl, _, ρ, S, _, rd, r, s, z, h, fun ρ' S' σ' H' t' s' r' o' h' => ?_⟩
    exact ⟨_, ρ', S', P, t'.rpL s rds, r', s', z.trans t', h', fun ρ2 S2 σ2 H2 t2 s2 r2 o2 => k ρ2 S2 σ2 H2 (t'.trans t2) s2 r2 (o'.trans o2)⟩
def gTup (n : Nat) (t : DGs) : DG := fun d ρ S Q => match d with
  | .tup ds => ds.length = n ∧ t ds ρ S Q
  | _ => False
theorem sg_tup {k : Nat} {t : DGs} {n : Nat} (hc : X.calm = true) (h : SGs X Z vs es t) (hn : (assignEach es X.env).length = n) (hst : (assignEach es X.env).findIdx? (·.1) = none) : SG X Z vs (.Tuple es k pos) (gTup n t) := by
  refine pgI (pg_tup hc h hn hst) fun v σ H Q ⟨d, ρ, S, P, rd, r, s, z, h, k⟩ => ?_
  cases rd with
  | tup sq rl =>
    obtain ⟨hl, h⟩ := h
    exact ⟨_, _, rfl, sq.sq, by rw [← rl.length]; exact hl, _, ρ, S, P, rl, r, s, z, h, k⟩
  | non => exact h.elim
  | bl _ => exact h.elim
  | int _ => exact h.elim
  | str _ => exact h.elim
  | ref _ => exact h.elim
  | fn _ => exact h.elim
  | ty _ => exact h.elim
  | lw _ _ => exact h.elim
/-- o[i] = v, by values -/
abbrev D3 := D → D → D → Sto → (Sto → Prop) → Prop
def Op3 (K : PySem.W.Frag) (mg : Str → Option Value) (r : TSet) (o : D3) : Prop :=
  ∀ S H x y d v u w P Q, StO K mg S H → Rp K mg H x v → Rp K mg H y u → Rp K mg H d w → o x y d S P → (∀ S' H', Tr S H S' H' → StO K mg S' H' → P S' → Q H') → r v u w H Q
def gSub (o : D3) (to ti : DE) : DG := fun d ρ S Q => to ρ S fun x S1 => ti ρ S1 fun y S2 => o x y d S2 fun S3 => Q ρ S3
theorem sg_sub {i : Expr} {ti : DE} {r : TSet} {o' : D3} (hs : PSet X r) (h3 : Op3 X.K X.mg r o') (ho : SE X Z o to) (hi : SE X Z i ti)
    (ha : ∀ v, assign (.Subscript o i pos) X.env v = (do
      let ov ← holding [v] (eval o X.env)
      let iv ← holding [v, ov] (eval i X.env)
      standAt pos
      holding [v, ov, iv] (setItem ov iv v)
      release [v, ov, iv] [])) : SG X Z vs (.Subscript o i pos) (gSub o' to ti) := by
  refine pgI (pg_sub ho hi hs ha) fun v σ H Q ⟨d, ρ, S, P, rd, r, s, z, h, k⟩ => ?_
  refine ⟨ρ, S, _, r, s, z, h, fun x S1 v1 H1 t1 s1 rx h1 => ?_⟩
  refine ⟨ρ, S1, _, t1.rpS s r, s1, z.trans t1, h1, fun y S2 v2 H2 t2 s2 ry h2 => ?_⟩
  have t12 := t1.trans t2
  exact h3 S2 H2 x y d v1 v2 v _ _ s2 (t2.rp s1 rx) ry (t12.rp s rd) h2 fun S3 H3 t3 s3 h3' => k _ _ _ _ (t12.trans t3) s3 ((t12.trans t3).rpS s r) (Out.refl _ _) h3'

/-! ### assignments -/
def dAsg (te : DE) (g : DG) : DS := fun D ρ S => te ρ S fun x S1 => g x ρ S1 D.nx
theorem ss_asg {tg : Expr} {g : DG} (he : SE X Z e te) (hg : SG X Z vs tg g) (hs : swapsWithSole [tg] e pos.line X.env = pure false) (hw : swappedStores [tg] e X.env = pure none)
    (h1 : (assignEach [tg] X.env).map (·.2) = [assign tg X.env]) : SS X Z (.Assign [tg] e pos) (dAsg te g) := by
  refine psI (ps_asg he hg hs hw h1) fun T σ H ⟨ρ, S, D, r, s, z, h, k⟩ => ?_
  refine ⟨ρ, S, _, r, s, z, h, fun x S1 v H1 t1 s1 rx h1 => ?_⟩
  exact ⟨x, ρ, S1, _, rx, t1.rpS s r, s1, z.trans t1, h1, fun ρ' S' σ' H' t' s' r' _ h' => k.nx _ _ _ _ (t1.trans t') s' r' h'⟩
def dPar (i j : Nat) (ta : DA) : DS := fun D ρ S => ta ρ S fun ds S1 => match ds with
  | [x, y] => D.nx ((ρ.set i (some x)).set j (some y)) S1
  | _ => False
theorem ss_par {i j : Nat} {x y : Str} {t : DA} {px py pt : Pos} {kt k2 pt2} (hc : X.calm = true) (hN : X.N.Nodup) (hi : X.N[i]? = some x) (hj : X.N[j]? = some y) (hij : i ≠ j)
    (hx : X.env.scope.names.lookup x = some .local) (hy : X.env.scope.names.lookup y = some .local) (ha : SA X Z [a, b] t)
    (hw : swappedStores [.Tuple [.Name x px, .Name y py] kt pt] (.Tuple [a, b] k2 pt2) X.env = pure (some [x, y]))
    (hs : swapsWithSole [.Tuple [.Name x px, .Name y py] kt pt] (.Tuple [a, b] k2 pt2) pos.line X.env = pure false) :
    SS X Z (.Assign [.Tuple [.Name x px, .Name y py] kt pt] (.Tuple [a, b] k2 pt2) pos) (dPar i j t) := by
  refine psI (ps_par hc hN hi hj hij hx hy ha hw hs) fun T σ H ⟨ρ, S, D, r, s, z, h, k⟩ => ?_
  refine ⟨ρ, S, _, r, s, z, h, fun ds S1 vs H1 t1 s1 rx h1 => ?_⟩
  cases rx with
  | nil => exact h1.elim
  | cons r1 rx =>
    cases rx with
    | nil => exact h1.elim
    | cons r2 rx =>
      cases rx with
      | cons _ _ => exact h1.elim
      | nil => exact ⟨_, _, rfl, k.nx _ _ _ _ t1 s1 (((t1.rpS s r).set r1 i).set r2 j) h1⟩
def dPar3 (i j l : Nat) (ta : DA) : DS := fun D ρ S => ta ρ S fun ds S1 => match ds with
  | [x, y, w] => D.nx (((ρ.set i (some x)).set j (some y)).set l (some w)) S1
  | _ => False
/-- name op= e -/
def dAug (o : D2) (i : Nat) (te : DE) : DS := fun D ρ S => ∃ x, ρ[i]? = some (some x) ∧ te ρ S fun y S1 => o x y S1 fun z S2 => D.nx (ρ.set i (some z)) S2
theorem ss_aug {i : Nat} {x : Str} {op : Operator} {r : TIp} {o : D2} {pos' : Pos} (hN : X.N.Nodup) (hi : X.N[i]? = some x) (hx : Loc X.env.scope x) (he : SE X Z e te) (hp : PIp X op r) (ho : Op2 X.K X.mg r o) (hf : X.fn x = true ∨ X.env.scope.names.lookup x = some .local) :
    SS X Z (.AugAssign (.Name x pos') op e pos) (dAug o i te) := by
  refine psI (ps_aug hN hi hx he hp hf) fun T σ H ⟨ρ, S, D, r, s, z, ⟨d, hd, h⟩, k⟩ => ?_
  obtain ⟨v, hv, rv⟩ := r.get i d hd
  refine ⟨v, hv, ρ, S, _, r, s, z, h, fun y S1 u H1 t1 s1 ry h1 => ?_⟩
  exact ho S1 H1 d y v u _ _ s1 (t1.rp s rv) ry h1 fun w S2 v2 H2 t2 s2 rw h2 => k.nx _ _ _ _ (t1.trans t2) s2 (((t1.trans t2).rpS s r).set rw i) h2
/-- o[i] op= e -/
def dAugS (og op : D2) (os : D3) (to ti te : DE) : DS := fun D ρ S => to ρ S fun x S1 => ti ρ S1 fun y S2 => og x y S2 fun z S3 => te ρ S3 fun w S4 => op z w S4 fun n S5 => os x y n S5 fun S6 => D.nx ρ S6
theorem ss_augS {i : Expr} {ti : DE} {rg : V → V → Hp → VK → Prop} {rp : TIp} {rs : TSet} {op : Operator} {og o2 : D2} {o3 : D3} {tpos : Pos} (ho : SE X Z o to) (hi : SE X Z i ti) (hg : PGet X rg) (he : SE X Z e te) (hp : PIp X op rp) (hs : PSet X rs)
    (h1 : Op2 X.K X.mg rg og) (h2 : Op2 X.K X.mg rp o2) (h3 : Op3 X.K X.mg rs o3)
    (ha : ∀ ov iv new, augStore i ov iv new = (do holding [new, ov, iv] (setItem ov iv new); release [new, ov, iv] []; pure .next)) : SS X Z (.AugAssign (.Subscript o i tpos) op e pos) (dAugS og o2 o3 to ti te) := by
  refine psI (ps_augS ho hi hg he hp hs ha) fun T σ H ⟨ρ, S, D, r, s, z, h, k⟩ => ?_
  refine ⟨ρ, S, _, r, s, z, h, fun x S1 v1 H1 t1 s1 rx q1 => ?_⟩
  refine ⟨ρ, S1, _, t1.rpS s r, s1, z.trans t1, q1, fun y S2 v2 H2 t2 s2 ry q2 => ?_⟩
  have t12 := t1.trans t2
  refine h1 S2 H2 x y v1 v2 _ _ s2 (t2.rp s1 rx) ry q2 fun w S3 v3 H3 t3 s3 rw q3 => ?_
  have t13 := t12.trans t3
  refine ⟨ρ, S3, _, t13.rpS s r, s3, z.trans t13, q3, fun n S4 v4 H4 t4 s4 rn q4 => ?_⟩
  refine h2 S4 H4 w n v3 v4 _ _ s4 (t4.rp s3 rw) rn q4 fun m S5 v5 H5 t5 s5 rm q5 => ?_
  have t25 := (t3.trans t4).trans t5
  refine h3 S5 H5 x y m v1 v2 v5 _ _ s5 ((t2.trans t25).rp s1 rx) (t25.rp s2 ry) rm q5 fun S6 H6 t6 s6 q6 => ?_
  have t16 := (t12.trans t25).trans t6
  exact k.nx _ _ _ _ t16 s6 (t16.rpS s r) q6

/-! ### what is walked -/
structure IOk (K : PySem.W.Frag) (mg : Str → Option Value) (J : It) (its : List D) (chk : Sto → Prop) (S1 : Sto) (H1 : Hp) : Prop where
  go : ∀ i S H, Tr S1 H1 S H → StO K mg S H → chk S → i < its.length → J.go i H
  stop : ∀ S H, Tr S1 H1 S H → StO K mg S H → chk S → J.stop its.length H
  yld : ∀ i S H v H', Tr S1 H1 S H → StO K mg S H → chk S → i < its.length → J.yld i H v H' → ∃ d, its[i]? = some d ∧ Tr S H S H' ∧ StO K mg S H' ∧ Rp K mg H' d v
abbrev DI := Nv → Sto → (List D → (Sto → Prop) → Sto → Prop) → Prop
def upI (K : PySem.W.Frag) (mg : Str → Option Value) (Z : Zb) (t : DI) : TI := fun σ H R => ∃ ρ S P, RpS K mg H ρ σ ∧ StO K mg S H ∧ Tr Z.S Z.H S H ∧ t ρ S P ∧
  ∀ its chk J S1 H1, Tr S H S1 H1 → StO K mg S1 H1 → IOk K mg J its chk S1 H1 → P its chk S1 → R J H1
def SI (X : Cx) (Z : Zb) (tg it : Expr) (t : DI) : Prop := PI X tg it (upI X.K X.mg Z t)
theorem piI {tg it : Expr} {t t' : TI} (h : PI X tg it t) (i : ∀ σ H Q, t' σ H Q → t σ H Q) : PI X tg it t' := ⟨fun pins s σ H Q I q => h.run pins s σ H Q I (i σ H Q q)⟩
def forD (chk : Sto → Prop) (g : DG) (tb : DS) (N : DEnds) : List D → Nv → Sto → Prop
  | [], ρ, S => chk S ∧ N.nx ρ S
  | x :: r, ρ, S => chk S ∧ g x ρ S fun ρ' S' => tb { N with nx := forD chk g tb N r, ct := forD chk g tb N r, bk := N.nx } ρ' S'
def dFor (wi : DI) (g : DG) (tb : DS) : DS := fun D ρ S => wi ρ S fun its chk S1 => forD chk g tb D its ρ S1
theorem ss_for {tg iter : Expr} {wi : DI} {g : DG} {tb : DS} (hp : PassesOwn (model X.prog X.w) X.A X.env X.xe) (hc : X.calm = true) (hi : SI X Z tg iter wi) (hg : SG X Z vs tg g) (hb : SSs X Z body tb)
    (hs : ∀ x, foldedSetIterable iter X.env x = pure x) : SS X Z (.For tg iter body [] pos) (dFor wi g tb) := by
  refine psI (ps_for hp hc hi hg hb hs) fun T σ H ⟨ρ, S, D, r, s, z, h, k⟩ => ?_
  refine ⟨ρ, S, _, r, s, z, h, fun its chk J S1 H1 t1 s1 io h1 => ?_⟩
  refine ⟨fun i m σ' H' => ∃ ρ' S', RpS X.K X.mg H' ρ' σ' ∧ StO X.K X.mg S' H' ∧ Tr S1 H1 S' H' ∧ i ≤ its.length ∧ m = its.length - i ∧ forD chk g tb D (its.drop i) ρ' S',
    ⟨its.length, ρ, S1, t1.rpS s r, s1, Tr.refl _ _, Nat.zero_le _, rfl, h1⟩, ?_⟩
  rintro i m σ' H' ⟨ρ', S', r', s', t', hi, rfl, h'⟩
  by_cases hlt : i < its.length
  · rw [List.drop_eq_getElem_cons hlt] at h'
    obtain ⟨hk, h'⟩ := h'
    refine .inr ⟨io.go i S' H' t' s' hk hlt, fun σ2 H2 => ∃ ρ2 S2, RpS X.K X.mg H2 ρ2 σ2 ∧ StO X.K X.mg S2 H2 ∧ Tr S1 H1 S2 H2 ∧ forD chk g tb D (its.drop (i + 1)) ρ2 S2, ?_, fun v H2 y => ?_⟩
    · rintro σ2 H2 ⟨ρ2, S2, r2, s2, t2, q2⟩
      exact ⟨its.length - (i + 1), by omega, ρ2, S2, r2, s2, t2, hlt, rfl, q2⟩
    · obtain ⟨d, hd, t2, s2, rd⟩ := io.yld i S' H' v H2 t' s' hk hlt y
      rw [List.getElem?_eq_getElem hlt] at hd
      cases hd
      have tz := (z.trans t1).trans (t'.trans t2)
      refine ⟨_, ρ', S', _, rd, t2.rpS s' r', s2, tz, h', fun ρ3 S3 σ3 H3 t3 s3 r3 _ h3 => ?_⟩
      refine ⟨ρ3, S3, _, r3, s3, tz.trans t3, h3, ⟨fun ρ4 S4 σ4 H4 t4 s4 r4 h4 => ⟨ρ4, S4, r4, s4, ((t'.trans t2).trans t3).trans t4, h4⟩, fun d4 S4 v4 H4 t4 s4 r4 h4 => ?_, fun ρ4 S4 σ4 H4 t4 s4 r4 h4 => ?_, fun ρ4 S4 σ4 H4 t4 s4 r4 h4 => ⟨ρ4, S4, r4, s4, ((t'.trans t2).trans t3).trans t4, h4⟩⟩⟩
      · exact k.rt _ _ _ _ (t1.trans (((t'.trans t2).trans t3).trans t4)) s4 r4 h4
      · exact k.nx _ _ _ _ (t1.trans (((t'.trans t2).trans t3).trans t4)) s4 r4 h4
  · have e : i = its.length := by omega
    subst e
    rw [List.drop_length] at h'
    exact .inl ⟨io.stop S' H' t' s' h'.1, k.nx _ _ _ _ (t1.trans t') s' r' h'.2⟩
/-- while: an invariant by a measure -/
def dWhile (c : DT) (tb : DS) : DS := fun D ρ S => ∃ W : Nat → Nv → Sto → Prop, (∃ m, W m ρ S) ∧ ∀ m ρ S, W m ρ S →
  c ρ S fun b S1 => if b = true then tb { D with nx := fun ρ' S' => ∃ m', m' < m ∧ W m' ρ' S', ct := fun ρ' S' => ∃ m', m' < m ∧ W m' ρ' S', bk := D.nx } ρ S1 else D.nx ρ S1
theorem ss_while {tA : DT} {tb : DS} (hp : PassesOwn (model X.prog X.w) X.A X.env X.xe) (hc : ST X Z c tA) (hb : SSs X Z body tb) : SS X Z (.While c body [] pos) (dWhile tA tb) := by
  refine psI (ps_while hp hc hb) fun T σ H ⟨ρ, S, D, r, s, z, ⟨W, ⟨m0, w0⟩, turn⟩, k⟩ => ?_
  refine ⟨fun m σ' H' => ∃ ρ' S', RpS X.K X.mg H' ρ' σ' ∧ StO X.K X.mg S' H' ∧ Tr S H S' H' ∧ W m ρ' S', ⟨m0, ρ, S, r, s, Tr.refl _ _, w0⟩, ?_⟩
  rintro m σ' H' ⟨ρ', S', r', s', t', w'⟩
  refine ⟨ρ', S', _, r', s', z.trans t', turn m ρ' S' w', fun b S1 H1 t1 s1 h1 => ?_⟩
  cases b with
  | false => exact k.nx _ _ _ _ (t'.trans t1) s1 (t1.rpS s' r') h1
  | true =>
    refine ⟨fun σ2 H2 => ∃ m', m' < m ∧ ∃ ρ2 S2, RpS X.K X.mg H2 ρ2 σ2 ∧ StO X.K X.mg S2 H2 ∧ Tr S H S2 H2 ∧ W m' ρ2 S2, fun σ2 H2 h2 => h2, ?_⟩
    refine ⟨ρ', S1, _, t1.rpS s' r', s1, z.trans (t'.trans t1), h1, ⟨?_, fun d4 S4 v4 H4 t4 s4 r4 h4 => ?_, fun ρ4 S4 σ4 H4 t4 s4 r4 h4 => ?_, ?_⟩⟩
    · rintro ρ4 S4 σ4 H4 t4 s4 r4 ⟨m', hm, h4⟩
      exact ⟨m', hm, ρ4, S4, r4, s4, (t'.trans t1).trans t4, h4⟩
    · exact k.rt _ _ _ _ ((t'.trans t1).trans t4) s4 r4 h4
    · exact k.nx _ _ _ _ ((t'.trans t1).trans t4) s4 r4 h4
    · rintro ρ4 S4 σ4 H4 t4 s4 r4 ⟨m', hm, h4⟩
      exact ⟨m', hm, ρ4, S4, r4, s4, (t'.trans t1).trans t4, h4⟩
end
end DL

set_option Elab.async false
set_option linter.all false
set_option maxRecDepth 100000
set_option maxHeartbeats 4000000
namespace DL
open PySem PySem.Spec PyProof.Rows L2 RZ

/-! ### a list that grows aside of the store -/
section
variable {K : PySem.W.Frag} {mg : Str → Option Value} {S S1 : Sto} {H H1 : Hp}
theorem side_kp {p : Addr} {xs ys : List V} (h : H p = some (.lst xs)) : Kp H (upd H p (.lst ys)) := by
  refine ⟨fun a zs q => ?_, fun a o zs q => ?_⟩
  · have ne : a ≠ p := fun e => by rw [e, h] at q; cases q
    rw [upd_ne ne]; exact q
  · have ne : a ≠ p := fun e => by rw [e, h] at q; cases q
    rw [upd_ne ne]; exact q
theorem StO.side {p : Addr} {xs ys : List V} (s : StO K mg S H) (n : S p = none) (h : H p = some (.lst xs)) : StO K mg S (upd H p (.lst ys)) := fun a c e => by
  obtain ⟨o, q, r⟩ := s a c e
  have ne : a ≠ p := fun z => by rw [z, n] at e; cases e
  exact ⟨o, by rw [upd_ne ne]; exact q, r.mono (side_kp h)⟩
theorem Tr.side {p : Addr} {ys : List V} (t : Tr S1 H1 S H) (n : H1 p = none) : Tr S1 H1 S (upd H p (.lst ys)) :=
  ⟨fun a o e m => by
    have ne : a ≠ p := fun z => by rw [z, n] at e; cases e
    rw [upd_ne ne]; exact t.keep a o e m, t.new⟩
theorem Tr.sideDone {p : Addr} {c : Cell} (t : Tr S1 H1 S H) (n : H1 p = none) : Tr S1 H1 (up1 S p c) H :=
  ⟨t.keep, fun a m q => by
    by_cases e : a = p
    · rw [e]; exact n
    · rw [up1_ne e] at q; exact t.new a m q⟩
theorem StO.sideDone {p : Addr} {ds : List D} {xs : List V} (s : StO K mg S H) (h : H p = some (.lst xs)) (r : RpL K mg H ds xs) : StO K mg (up1 S p (.lst ds)) H := fun a c e => by
  by_cases z : a = p
  · subst z
    rw [up1_same] at e; cases e
    exact ⟨_, h, .lst r⟩
  · rw [up1_ne z] at e
    exact s a c e
end

def wipeD (ρ : Nv) : List Nat → Nv
  | [] => ρ
  | v :: vs => (wipeD ρ vs).set v none
theorem RpS.wipe {K : PySem.W.Frag} {mg : Str → Option Value} {H : Hp} {ρ : Nv} {σ : L2.St} (r : RpS K mg H ρ σ) : ∀ vs, RpS K mg H (wipeD ρ vs) (wipe σ vs)
  | [] => r
  | v :: vs => (RpS.wipe r vs).forget v
theorem wipe_get_in {σ : L2.St} {j : Nat} : ∀ {vs : List Nat}, j ∈ vs → j < σ.length → (wipe σ vs)[j]? = some none
  | [], h, _ => by cases h
  | v :: vs, h, hl => by
    unfold wipe
    by_cases e : v = j
    · subst e
      exact List.getElem?_set_self (by rw [wipe_length]; exact hl)
    · rw [List.getElem?_set_ne e]
      exact wipe_get_in (by rcases List.mem_cons.mp h with q | q; exact absurd q.symm e; exact q) hl
theorem wipe_ext {σ σ' : L2.St} {vs : List Nat} (o : Out vs σ σ') : wipe σ' vs = wipe σ vs := by
  refine List.ext_getElem? fun j => ?_
  by_cases h : j ∈ vs
  · by_cases hl : j < σ.length
    · rw [wipe_get_in h hl, wipe_get_in h (by rw [o.1]; exact hl)]
    · have h1 : (wipe σ' vs).length ≤ j := by rw [wipe_length, o.1]; omega
      have h2 : (wipe σ vs).length ≤ j := by rw [wipe_length]; omega
      rw [List.getElem?_eq_none h1, List.getElem?_eq_none h2]
  · rw [wipe_out h, wipe_out h]
    exact o.2 j h
theorem wipe_wipe (σ : L2.St) (vs : List Nat) : wipe (wipe σ vs) vs = wipe σ vs := by
  refine List.ext_getElem? fun j => ?_
  by_cases h : j ∈ vs
  · by_cases hl : j < σ.length
    · rw [wipe_get_in h hl, wipe_get_in h (by rw [wipe_length]; exact hl)]
    · rw [List.getElem?_eq_none (by rw [wipe_length, wipe_length]; omega), List.getElem?_eq_none (by rw [wipe_length]; omega)]
  · rw [wipe_out h]

/-! ### comprehensions -/
def lcD (chk : Sto → Prop) (g : DG) (tt : DT) (te : DE) (ρ : Nv) : List D → Sto → (List D → Sto → Prop) → Prop
  | [], S, F => chk S ∧ F [] S
  | x :: r, S, F => chk S ∧ g x ρ S fun ρ2 S2 => tt ρ2 S2 fun b S3 => if b = true then te ρ2 S3 fun y S4 => lcD chk g tt te ρ r S4 fun ds S5 => F (y :: ds) S5 else lcD chk g tt te ρ r S3 F
def dLc (wi : DI) (g : DG) (tt : DT) (te : DE) (vs : List Nat) : DE := fun ρ S Q => wi ρ S fun its chk S1 => its.length ≤ sizeLine ∧
  lcD chk g tt te (wipeD ρ vs) its S1 fun ds S2 => ∀ p, S2 p = none → Q (.ref p) (up1 S2 p (.lst ds))
section
variable {X : Cx} {Z : Zb} {elt tg iter : Expr} {ifs : List Expr} {scope : Scope} {own : List (Str × Nat)} {pos spos py : Pos} {wi : DI} {g : DG} {tt : DT} {te : DE}
def STs (X : Cx) (Z : Zb) (ifs : List Expr) (t : DT) : Prop := PTs X ifs (upT X.K X.mg Z t)
def dYes : DT := fun _ S Q => Q true S
theorem sts_nil : STs X Z [] dYes := by
  obtain ⟨h⟩ := pts_nil (X := X)
  exact ⟨fun pins s σ H Q I ⟨ρ, S, P, r, st, z, h1, k⟩ => h pins s σ H Q I (k _ _ _ (Tr.refl _ _) st h1)⟩
theorem sts_one {c : Expr} {t : DT} (h : ST X Z c t) : STs X Z [c] t := pts_one h
theorem up_lc : ∀ σ H Q, upE X.K X.mg Z (dLc wi g tt te vs) σ H Q → tLc (upI X.K X.mg Z wi) (upG X.K X.mg Z vs g) (upT X.K X.mg Z tt) (upE X.K X.mg Z te) vs σ H Q := by
  rintro σ H Q ⟨ρ, S, P, r, s, z, h, k⟩
  refine ⟨ρ, S, _, r, s, z, h, fun its chk J S1 H1 t1 s1 io ⟨hz, h1⟩ D hD => ?_⟩
  refine ⟨fun i m H' => ∃ S' ds xs, StO X.K X.mg S' H' ∧ Tr S1 H1 S' H' ∧ H' D = some (.lst xs) ∧ S' D = none ∧ RpL X.K X.mg H' ds xs ∧ ds.length ≤ i ∧ i ≤ its.length ∧ m = its.length - i ∧
    lcD chk g tt te (wipeD ρ vs) (its.drop i) S' fun es S2 => ∀ p, S2 p = none → P (.ref p) (up1 S2 p (.lst (ds ++ es))), ⟨its.length, ?_⟩, ?_⟩
  · exact ⟨S1, [], [], s1.laidH hD, Tr.laidH hD, upd_same, s1.free hD, .nil, Nat.zero_le _, Nat.zero_le _, rfl, h1⟩
  · rintro i m H' ⟨S', ds, xs, s', t', hD', nD, rl, hl, hi, rfl, h'⟩
    by_cases hlt : i < its.length
    · rw [List.drop_eq_getElem_cons hlt] at h'
      obtain ⟨hk, h'⟩ := h'
      refine .inr ⟨io.go i S' H' t' s' hk hlt, _, fun H2 w2 => ⟨its.length - (i + 1), by omega, w2⟩, fun v H2 y => ?_⟩
      obtain ⟨d, hd, t2, s2, rd⟩ := io.yld i S' H' v H2 t' s' hk hlt y
      rw [List.getElem?_eq_getElem hlt] at hd
      cases hd
      have tz := (z.trans t1).trans (t'.trans t2)
      have t12 := (t1.trans t').trans t2
      refine ⟨_, _, S', _, rd, (t12.rpS s r).wipe vs, s2, tz, h', fun ρ3 S3 σ3 H3 t3 s3 r3 o3 h3 => ⟨by rw [wipe_ext o3, wipe_wipe], ?_⟩⟩
      refine ⟨ρ3, S3, _, r3, s3, tz.trans t3, h3, fun b S4 H4 t4 s4 h4 => ?_⟩
      have t24 := (t2.trans t3).trans t4
      have nD4 : S4 D = none := by
        cases e : S4 D with
        | none => rfl
        | some c => rw [t24.new D nD (by rw [e]; exact fun z => nomatch z)] at hD'; cases hD'
      cases b with
      | false =>
        exact ⟨S4, ds, xs, s4, t'.trans t24, t24.keep _ _ hD' nD, nD4, t24.rpL s' rl, by omega, by omega, rfl, h4⟩
      | true =>
        refine ⟨ρ3, S4, _, t4.rpS s3 r3, s4, (tz.trans t3).trans t4, h4, fun y S5 v5 H5 t5 s5 r5 h5 => ?_⟩
        have t25 := t24.trans t5
        have hD5 := t25.keep _ _ hD' nD
        have nD5 : S5 D = none := by
          cases e : S5 D with
          | none => rfl
          | some c => rw [t25.new D nD (by rw [e]; exact fun z => nomatch z)] at hD'; cases hD'
        have hll := rl.length
        refine ⟨xs, hD5, by omega, S5, ds ++ [y], xs ++ [v5], s5.side nD5 hD5, (t'.trans t25).side hD, upd_same, nD5, ?_, ?_, by omega, rfl, ?_⟩
        · exact ((t25.rpL s' rl).append (.one r5)).mono (side_kp hD5)
        · rw [List.length_append, List.length_singleton]; omega
        · have e : (fun es S2 => ∀ p, S2 p = none → P (.ref p) (up1 S2 p (.lst (ds ++ [y] ++ es)))) = fun es S2 => ∀ p, S2 p = none → P (.ref p) (up1 S2 p (.lst (ds ++ (y :: es)))) := by
            funext es S2
            rw [List.append_assoc, List.singleton_append]
          rw [e]
          exact h5
    · have e : i = its.length := by omega
      subst e
      rw [List.drop_length] at h'
      refine .inl ⟨io.stop S' H' t' s' h'.1, ?_⟩
      have h2 := h'.2 D nD
      rw [List.append_nil] at h2
      exact k _ _ _ _ (t1.trans (t'.sideDone hD)) (s'.sideDone hD' rl) (.ref D) h2
theorem s_lc (hc : X.calm = true) (hN : X.N.Nodup) (hi : SI X Z tg iter wi) (ok : BlkOk X.N X.env.scope scope own)
    (hg : ∀ (s : Shared) (H : Hp) (C : Addr) (cl : List (Str × Addr)) (fp : List Addr), SG (X.blk s H scope (compEnvC scope cl C X.env) fp) Z (own.map (·.2)) tg g) (ht : ∀ (s : Shared) (H : Hp) (C : Addr) (cl : List (Str × Addr)) (fp : List Addr), STs (X.blk s H scope (compEnvC scope cl C X.env) fp) Z ifs tt)
    (he : ∀ (s : Shared) (H : Hp) (C : Addr) (cl : List (Str × Addr)) (fp : List Addr), SE (X.blk s H scope (compEnvC scope cl C X.env) fp) Z elt te) (hs : ∀ x, foldedSetIterable iter X.env x = pure x) :
    SE X Z (.ListComp elt [⟨tg, iter, ifs, 0⟩] scope pos) (dLc wi g tt te (own.map (·.2))) := peI (pe_lc (g := upG X.K X.mg Z (List.map (fun (x : Str × Nat) => x.2) own) g) (tt := upT X.K X.mg Z tt) (te := upE X.K X.mg Z te) hc hN hi ok hg ht he hs) up_lc
theorem ss_setLc {i : Nat} {y : Str} (hc : X.calm = true) (hN : X.N.Nodup) (hy : X.N[i]? = some y) (hyl : X.env.scope.names.lookup y = some .local)
    (hsw : swapsWith (.ListComp elt [⟨tg, iter, ifs, 0⟩] scope pos) (some (.Name y py)) spos.line X.env = pure true) (hi : SI X Z tg iter wi) (ok : BlkOk X.N X.env.scope scope own)
    (hg : ∀ (s : Shared) (H : Hp) (C : Addr) (cl : List (Str × Addr)) (fp : List Addr), SG (X.blk s H scope (compEnvC scope cl C X.env) fp) Z (own.map (·.2)) tg g) (ht : ∀ (s : Shared) (H : Hp) (C : Addr) (cl : List (Str × Addr)) (fp : List Addr), STs (X.blk s H scope (compEnvC scope cl C X.env) fp) Z ifs tt)
    (he : ∀ (s : Shared) (H : Hp) (C : Addr) (cl : List (Str × Addr)) (fp : List Addr), SE (X.blk s H scope (compEnvC scope cl C X.env) fp) Z elt te) (hs : ∀ x, foldedSetIterable iter X.env x = pure x) :
    SS X Z (.Assign [.Name y py] (.ListComp elt [⟨tg, iter, ifs, 0⟩] scope pos) spos) (dAsg (dLc wi g tt te (own.map (·.2))) (gSet i)) := by
  refine psI (ps_setLc (g := upG X.K X.mg Z (List.map (fun (x : Str × Nat) => x.2) own) g) (tt := upT X.K X.mg Z tt) (te := upE X.K X.mg Z te) hc hN hy hyl hsw hi ok hg ht he hs) fun T σ H ⟨ρ, S, N, r, s, z, h, k⟩ => ?_
  refine up_lc σ H _ ⟨ρ, S, _, r, s, z, h, fun d S1 v H1 t1 s1 rd h1 => ?_⟩
  exact k.nx _ _ _ _ t1 s1 ((t1.rpS s r).set rd i) h1
end

/-! ### what is walked -/
section
variable {X : Cx} {Z : Zb} {tg e : Expr} {es : List Expr} {te : DE} {ta : DA} {p pos : Pos}
/-- any list, any tuple -/
def iAny (te : DE) : DI := fun ρ S P => te ρ S fun x S1 => match x with
  | .tup ds => P ds (fun _ => True) S1
  | .ref a => ∃ ds, LA S1 a ds ∧ P ds (fun S' => LA S' a ds) S1
  | _ => False
theorem iok_list {K : PySem.W.Frag} {mg : Str → Option Value} {S1 : Sto} {H1 : Hp} {a : Addr} {ds : List D} : IOk K mg (Itl K a) ds (fun S' => LA S' a ds) S1 H1 where
  go := fun i S H t s l hi => by
    obtain ⟨xs, sq, rl⟩ := s.sqL l
    exact ⟨xs, xs[i]'(by rw [← rl.length]; exact hi), sq, List.getElem?_eq_getElem _⟩
  stop := fun S H t s l => by
    obtain ⟨xs, sq, rl⟩ := s.sqL l
    exact ⟨xs, sq, by rw [rl.length]; exact Nat.le_refl _⟩
  yld := fun i S H v H' t s l hi ⟨e, q⟩ => by
    subst e
    obtain ⟨xs, sq, rl⟩ := s.sqL l
    obtain ⟨d, h1, h2⟩ := rl.get' (q xs sq)
    exact ⟨d, h1, Tr.refl _ _, s, h2⟩
theorem iok_tup {K : PySem.W.Frag} {mg : Str → Option Value} {S1 : Sto} {H1 : Hp} {a : Addr} {ds : List D} {xs : List V} (s1 : StO K mg S1 H1) (sq : TupA K H1 a xs) (rl : RpL K mg H1 ds xs) : IOk K mg (Itt K a) ds (fun _ => True) S1 H1 where
  go := fun i S H t s l hi => ⟨xs, xs[i]'(by rw [← rl.length]; exact hi), (t.sqT s1 _ _ sq).sq, List.getElem?_eq_getElem _⟩
  stop := fun S H t s l => ⟨xs, (t.sqT s1 _ _ sq).sq, by rw [rl.length]; exact Nat.le_refl _⟩
  yld := fun i S H v H' t s l hi ⟨e, q⟩ => by
    subst e
    obtain ⟨d, h1, h2⟩ := (t.rpL s1 rl).get' (q xs (t.sqT s1 _ _ sq).sq)
    exact ⟨d, h1, Tr.refl _ _, s, h2⟩
theorem pi_any {l : Expr} {tl : TE} (hl : PE X l tl) : PI X tg l (fun σ H R => tl σ H fun x H1 => ∃ a, x = .ref a ∧ (((∃ xs, SqL X.K H1 a xs) ∧ R (Itl X.K a) H1) ∨ ((∃ xs, SqT X.K H1 a xs) ∧ R (Itt X.K a) H1))) := by
  refine ⟨fun pins s σ H R I h => ?_⟩
  refine thn (hl.run pins s σ H _ I h) fun v s1 ⟨x, H1, I1, r1, q1⟩ => ?_
  obtain ⟨a, e, q⟩ := q1
  subst e
  cases r1
  rcases q with ⟨⟨xs, hq⟩, q⟩ | ⟨⟨xs, hq⟩, q⟩
  · obtain ⟨its, rv, p, hz⟩ := I1.list hq
    refine wpAny_pyIter_list p.isList ?_
    refine ⟨s1.heap.objs.size, [s1.heap.objs.size], _, _, H1, rfl, I1.kept (t' := s1.toks) fun b o e => Heap.get?_push_of_some _ e, turn_list a _, ⟨_, Heap.get?_push_size _ rfl, rfl, rfl⟩, fun b hb => ?_, q⟩
    have e : b = s1.heap.objs.size := by simpa using hb
    subst e
    exact I1.fpOk (Nat.le_refl _) (I1.hok.fresh (Nat.le_refl _))
  · obtain ⟨its, rv, p, hz⟩ := I1.tuple hq
    refine wpAny_pyIter_tuple (show s1.heap.IsTuple a its.toArray from p) ?_
    refine ⟨s1.heap.objs.size, [s1.heap.objs.size], _, _, H1, rfl, I1.kept (t' := s1.toks) fun b o e => Heap.get?_push_of_some _ e, turn_tuple a _, ⟨_, Heap.get?_push_size _ rfl, rfl, rfl⟩, fun b hb => ?_, q⟩
    have e : b = s1.heap.objs.size := by simpa using hb
    subst e
    exact I1.fpOk (Nat.le_refl _) (I1.hok.fresh (Nat.le_refl _))
theorem si_any (he : SE X Z e te) : SI X Z tg e (iAny te) := by
  refine piI (pi_any he) fun σ H R ⟨ρ, S, P, r, s, z, h, k⟩ => ?_
  refine ⟨ρ, S, _, r, s, z, h, fun x S1 v H1 t1 s1 rx h1 => ?_⟩
  cases rx with
  | ref a =>
    obtain ⟨ds, l, h1⟩ := h1
    obtain ⟨xs, sq, rl⟩ := s1.sqL l
    exact ⟨a, rfl, .inl ⟨⟨xs, sq⟩, k _ _ _ _ _ t1 s1 iok_list h1⟩⟩
  | tup sq rl => exact ⟨_, rfl, .inr ⟨⟨_, sq.sq⟩, k _ _ _ _ _ t1 s1 (iok_tup s1 sq rl) h1⟩⟩
  | non => exact h1.elim
  | bl _ => exact h1.elim
  | int _ => exact h1.elim
  | str _ => exact h1.elim
  | fn _ => exact h1.elim
  | ty _ => exact h1.elim
  | lw _ _ => exact h1.elim
/-- lo, lo + 1, .. -/
def rngD (lo : Int) (n : Nat) : List D := (List.range n).map fun i => D.int (lo + (i : Nat))
theorem iok_rng {K : PySem.W.Frag} {mg : Str → Option Value} {S1 : Sto} {H1 : Hp} {lo : Int} {n : Nat} : IOk K mg (Itr lo n) (rngD lo n) (fun _ => True) S1 H1 where
  go := fun i S H t s l hi => by
    have e : (rngD lo n).length = n := by unfold rngD; rw [List.length_map, List.length_range]
    exact (show i < n by omega)
  stop := fun S H t s l => by
    have e : (rngD lo n).length = n := by unfold rngD; rw [List.length_map, List.length_range]
    exact (show n ≤ (rngD lo n).length by omega)
  yld := fun i S H v H' t s l hi ⟨e, q⟩ => by
    subst e q
    have e : (rngD lo n).length = n := by unfold rngD; rw [List.length_map, List.length_range]
    refine ⟨.int (lo + i), ?_, Tr.refl _ _, s, .int _⟩
    unfold rngD
    rw [List.getElem?_map, List.getElem?_range (by omega)]
    rfl
def rng1P (P : List D → (Sto → Prop) → Sto → Prop) (ds : List D) (S1 : Sto) : Prop := match ds with
  | [.int j] => -(2 ^ 62) ≤ j ∧ j < 2 ^ 62 ∧ P (rngD 0 j.toNat) (fun _ => True) S1
  | _ => False
def rng2P (P : List D → (Sto → Prop) → Sto → Prop) (ds : List D) (S1 : Sto) : Prop := match ds with
  | [.int i, .int j] => (-(2 ^ 62) ≤ i ∧ i < 2 ^ 62 ∧ -(2 ^ 62) ≤ j ∧ j < 2 ^ 62) ∧ P (rngD i (j - i).toNat) (fun _ => True) S1
  | _ => False
def rng3P (P : List D → (Sto → Prop) → Sto → Prop) (ds : List D) (S1 : Sto) : Prop := match ds with
  | [.int i, .int j, .int c] => c = -1 ∧ (-(2 ^ 62) ≤ i ∧ i < 2 ^ 62 ∧ -(2 ^ 62) ≤ j ∧ j < 2 ^ 62) ∧ P ((List.range (i - j).toNat).map fun k => D.int (i - (k : Nat))) (fun _ => True) S1
  | _ => False
def iRng1 (ta : DA) : DI := fun ρ S P => ta ρ S (rng1P P)
def iRng2 (ta : DA) : DI := fun ρ S P => ta ρ S (rng2P P)
def iRng3 (ta : DA) : DI := fun ρ S P => ta ρ S (rng3P P)
theorem RpL.i1 {K : PySem.W.Frag} {mg : Str → Option Value} {H : Hp} {j : Int} {vs : List V} (r : RpL K mg H [.int j] vs) : vs = [.int j] := by
  cases r with | cons r t => cases r; cases t; rfl
theorem RpL.i2 {K : PySem.W.Frag} {mg : Str → Option Value} {H : Hp} {i j : Int} {vs : List V} (r : RpL K mg H [.int i, .int j] vs) : vs = [.int i, .int j] := by
  cases r with | cons r t => cases r; rw [RpL.i1 t]
theorem RpL.i3 {K : PySem.W.Frag} {mg : Str → Option Value} {H : Hp} {i j c : Int} {vs : List V} (r : RpL K mg H [.int i, .int j, .int c] vs) : vs = [.int i, .int j, .int c] := by
  cases r with | cons r t => cases r; rw [RpL.i2 t]
theorem si_rng1 {a : Expr} (hg : Gl X "range") (hm : X.mg "range" = none) (ha : SA X Z [a] ta) (hs : starEach [a] X.env = [(false, eval a X.env)]) : SI X Z tg (.Call (.Name "range" p) [a] [] pos) (iRng1 ta) := by
  refine piI (pi_range1 hg hm ha hs) fun σ H R ⟨ρ, S, P, r, s, z, h, k⟩ => ?_
  refine ⟨ρ, S, _, r, s, z, h, fun x S1 v H1 t1 s1 rx h1 => ?_⟩
  unfold rng1P at h1
  split at h1
  · exact ⟨_, rx.i1, h1.1, h1.2.1, k _ _ _ _ _ t1 s1 iok_rng h1.2.2⟩
  · exact h1.elim
theorem si_rng2 {a b : Expr} (hg : Gl X "range") (hm : X.mg "range" = none) (ha : SA X Z [a, b] ta) (hs : starEach [a, b] X.env = [(false, eval a X.env), (false, eval b X.env)]) (hs2 : starEach [b] X.env = [(false, eval b X.env)]) :
    SI X Z tg (.Call (.Name "range" p) [a, b] [] pos) (iRng2 ta) := by
  refine piI (pi_range2 hg hm ha hs hs2) fun σ H R ⟨ρ, S, P, r, s, z, h, k⟩ => ?_
  refine ⟨ρ, S, _, r, s, z, h, fun x S1 v H1 t1 s1 rx h1 => ?_⟩
  unfold rng2P at h1
  split at h1
  · exact ⟨_, _, rx.i2, h1.1, k _ _ _ _ _ t1 s1 iok_rng h1.2⟩
  · exact h1.elim
/-- zip of two lists or of two tuples -/
def zipD : List D → List D → List D
  | x :: xs, y :: ys => .tup [x, y] :: zipD xs ys
  | _, _ => []
theorem zipD_length : ∀ xs ys : List D, (zipD xs ys).length = min xs.length ys.length
  | [], _ => by simp [zipD]
  | _ :: _, [] => by simp [zipD]
  | x :: xs, y :: ys => by
    show (zipD xs ys).length + 1 = min (xs.length + 1) (ys.length + 1)
    rw [zipD_length xs ys]; omega
theorem zipD_get : ∀ {xs ys : List D} {i : Nat} {x y : D}, xs[i]? = some x → ys[i]? = some y → (zipD xs ys)[i]? = some (.tup [x, y])
  | [], _, _, _, _, h, _ => by simp at h
  | _ :: _, [], _, _, _, _, h => by simp at h
  | _ :: _, _ :: _, 0, _, _, h, h' => by simp at h h'; subst h; subst h'; rfl
  | _ :: xs, _ :: ys, i + 1, x, y, h, h' => zipD_get (xs := xs) (ys := ys) (i := i) (by simpa using h) (by simpa using h')
def zipQ (x y : D) (S : Sto) (P : List D → (Sto → Prop) → Sto → Prop) : Prop := match x, y with
  | .tup xs, .tup ys => P (zipD xs ys) (fun _ => True) S
  | .ref a, .ref b => ∃ xs ys, LA S a xs ∧ LA S b ys ∧ P (zipD xs ys) (fun S' => LA S' a xs ∧ LA S' b ys) S
  | _, _ => False
theorem zipQ_inv {x y : D} {S : Sto} {P : List D → (Sto → Prop) → Sto → Prop} (h : zipQ x y S P) : (∃ xs ys, x = .tup xs ∧ y = .tup ys ∧ P (zipD xs ys) (fun _ => True) S) ∨
    ∃ a b xs ys, x = .ref a ∧ y = .ref b ∧ LA S a xs ∧ LA S b ys ∧ P (zipD xs ys) (fun S' => LA S' a xs ∧ LA S' b ys) S := by
  cases x <;> cases y <;> first
    | exact h.elim
    | exact .inl ⟨_, _, rfl, rfl, h⟩
    | (obtain ⟨xs, ys, la, lb, h⟩ := h; exact .inr ⟨_, _, xs, ys, rfl, rfl, la, lb, h⟩)
def iZp (ta : DA) : DI := fun ρ S P => ta ρ S fun ds S1 => match ds with
  | [x, y] => zipQ x y S1 P
  | _ => False
theorem iok_zipT {K : PySem.W.Frag} {mg : Str → Option Value} {S1 : Sto} {H1 : Hp} {a b : Addr} {xs ys : List D} {us vs : List V} (s1 : StO K mg S1 H1) (sa : TupA K H1 a us) (sb : TupA K H1 b vs) (ra : RpL K mg H1 xs us) (rb : RpL K mg H1 ys vs) :
    IOk K mg (ItzT K a b) (zipD xs ys) (fun _ => True) S1 H1 where
  go := fun i S H t s l hi => by
    rw [zipD_length] at hi
    exact ⟨us, vs, us[i]'(by rw [← ra.length]; omega), vs[i]'(by rw [← rb.length]; omega), (t.sqT s1 _ _ sa).sq, (t.sqT s1 _ _ sb).sq, List.getElem?_eq_getElem _, List.getElem?_eq_getElem _⟩
  stop := fun S H t s l => by
    refine ⟨us, vs, (t.sqT s1 _ _ sa).sq, (t.sqT s1 _ _ sb).sq, ?_⟩
    rw [zipD_length, ← ra.length, ← rb.length]; omega
  yld := fun i S H v H' t s l hi ⟨T, x, y, ev, nT, eH, f1, f2⟩ => by
    subst ev eH
    obtain ⟨d1, h1, r1⟩ := (t.rpL s1 ra).get' (f1 us (t.sqT s1 _ _ sa).sq)
    obtain ⟨d2, h2, r2⟩ := (t.rpL s1 rb).get' (f2 vs (t.sqT s1 _ _ sb).sq)
    have tl := Tr.laidH (S := S) (o := .tup [x, y]) nT
    exact ⟨_, zipD_get h1 h2, tl, s.laidH nT, .tup (.inl upd_same) (.cons (tl.rp s r1) (.cons (tl.rp s r2) .nil))⟩
theorem iok_zipL {K : PySem.W.Frag} {mg : Str → Option Value} {S1 : Sto} {H1 : Hp} {a b : Addr} {xs ys : List D} : IOk K mg (Itz K a b) (zipD xs ys) (fun S' => LA S' a xs ∧ LA S' b ys) S1 H1 where
  go := fun i S H t s l hi => by
    rw [zipD_length] at hi
    obtain ⟨us, sa, ra⟩ := s.sqL l.1
    obtain ⟨vs, sb, rb⟩ := s.sqL l.2
    exact ⟨us, vs, us[i]'(by rw [← ra.length]; omega), vs[i]'(by rw [← rb.length]; omega), sa, sb, List.getElem?_eq_getElem _, List.getElem?_eq_getElem _⟩
  stop := fun S H t s l => by
    obtain ⟨us, sa, ra⟩ := s.sqL l.1
    obtain ⟨vs, sb, rb⟩ := s.sqL l.2
    refine ⟨us, vs, sa, sb, ?_⟩
    rw [zipD_length, ← ra.length, ← rb.length]; omega
  yld := fun i S H v H' t s l hi ⟨T, x, y, ev, nT, eH, f1, f2⟩ => by
    subst ev eH
    obtain ⟨us, sa, ra⟩ := s.sqL l.1
    obtain ⟨vs, sb, rb⟩ := s.sqL l.2
    obtain ⟨d1, h1, r1⟩ := ra.get' (f1 us sa)
    obtain ⟨d2, h2, r2⟩ := rb.get' (f2 vs sb)
    have tl := Tr.laidH (S := S) (o := .tup [x, y]) nT
    exact ⟨_, zipD_get h1 h2, tl, s.laidH nT, .tup (.inl upd_same) (.cons (tl.rp s r1) (.cons (tl.rp s r2) .nil))⟩
theorem si_zip {a b : Expr} {elts : List Expr} {kk : Nat} {tpos : Pos} (hg : Gl X "zip") (hm : X.mg "zip" = none) (ha : SA X Z [a, b] ta)
    (hs : starEach [a, b] X.env = (false, eval a X.env) :: starEach [b] X.env) (hpl : (backTo pos (starEach [b] X.env)).any (·.1) = false) : SI X Z (.Tuple elts kk tpos) (.Call (.Name "zip" p) [a, b] [] pos) (iZp ta) := by
  refine piI (pi_zipA hg hm ha hs hpl) fun σ H R ⟨ρ, S, P, r, s, z, h, k⟩ => ?_
  refine ⟨ρ, S, _, r, s, z, h, fun x S1 v H1 t1 s1 rx h1 => ?_⟩
  obtain ⟨x1, x2, rfl, h1⟩ : ∃ x1 x2, x = [x1, x2] ∧ zipQ x1 x2 S1 P := by
    split at h1
    · exact ⟨_, _, rfl, h1⟩
    · exact h1.elim
  obtain ⟨v1, v2, rfl, r1, r2⟩ : ∃ v1 v2, v = [v1, v2] ∧ Rp X.K X.mg H1 x1 v1 ∧ Rp X.K X.mg H1 x2 v2 := by
    cases rx with | cons r1 rx => cases rx with | cons r2 rx => cases rx; exact ⟨_, _, rfl, r1, r2⟩
  rcases zipQ_inv h1 with ⟨xs, ys, rfl, rfl, h1⟩ | ⟨a, b, xs, ys, rfl, rfl, la, lb, h1⟩
  · cases r1 with
    | tup sa ra =>
      cases r2 with
      | tup sb rb => exact ⟨_, _, _, _, rfl, .inr ⟨sa.sq, sb.sq, k _ _ _ _ _ t1 s1 (iok_zipT s1 sa sb ra rb) h1⟩⟩
  · cases r1
    cases r2
    obtain ⟨us, sa, ra⟩ := s1.sqL la
    obtain ⟨vs, sb, rb⟩ := s1.sqL lb
    exact ⟨_, _, us, vs, rfl, .inl ⟨sa, sb, k _ _ _ _ _ t1 s1 iok_zipL h1⟩⟩
end
end DL

set_option Elab.async false
set_option linter.all false
set_option maxRecDepth 100000
set_option maxHeartbeats 4000000
/-! a tuple times 1, times 0 -/
namespace DL
open PySem PySem.Spec PyProof.Rows L2 RZ
open AutoSeq1 (wpAny_loadPart')
theorem tuple_mul1 (l : Addr) (items : Array Value) (n : Nat) (dd : Option Addr) (sl : Array (Option Value)) (x : Int) (u : Tok) (hx : x = 1) :
    Meets (Builtin.«tuple.__mul__» ⟨[.ref l, .int x u], []⟩) (fun _ R s => s.heap.get? l = some { cls := .type "tuple", dict := dd, data := .seq items n, slots := sl } ∧
      R (.ok (.ret (Value.ref l))) s) :=
  .of_wp fun prog w A R s h => by
    obtain ⟨hp, g, d, tk, os⟩ := s
    obtain ⟨hl, h⟩ := h
    have f1 := AutoSeq1.idx_int
    subst hx
    have c0 : (decide ((1 : Int) < -(2 ^ 63)) || decide ((1 : Int) ≥ 2 ^ 63)) = false := by decide
    have c1 : (items.isEmpty || (1 : Int) == 1) = true := by simp
    wp_walk using wpAny_loadPart' hl
    repeat (first
      | (refine wpAny_ite_false (decide_eq_false (by rw [c0]; exact Bool.false_ne_true)) ?_; wp_walk using wpAny_loadPart' hl)
      | (refine wpAny_ite_true (decide_eq_true c1) ?_; wp_walk using wpAny_loadPart' hl))
    exact ⟨_, rfl, h⟩
theorem tuple_mul0 (l : Addr) (items : Array Value) (n : Nat) (dd : Option Addr) (sl : Array (Option Value)) (x : Int) (u : Tok) (hx : x ≤ 0) (hx2 : -(2 ^ 63) ≤ x) (hi : items.isEmpty = false) :
    Meets (Builtin.«tuple.__mul__» ⟨[.ref l, .int x u], []⟩) (fun _ R s => s.heap.get? l = some { cls := .type "tuple", dict := dd, data := .seq items n, slots := sl } ∧
      R (.ok (.ret (Value.ref s.heap.objs.size))) { s with heap := s.heap.push { cls := Value.type "tuple", data := Data.seq #[] }, toks := s.toks }) :=
  .of_wp fun prog w A R s h => by
    obtain ⟨hp, g, d, tk, os⟩ := s
    obtain ⟨hl, h⟩ := h
    have f1 := AutoSeq1.idx_int
    have c0 : (decide (x < -(2 ^ 63)) || decide (x ≥ 2 ^ 63)) = false := by rw [decide_eq_false (by omega), decide_eq_false (by omega)]; rfl
    have c1 : (items.isEmpty || x == 1) = false := by
      rw [hi, Bool.false_or]; exact beq_eq_false_iff_ne.mpr (by omega)
    have c2 : (decide (x ≤ 0) || items.isEmpty) = true := by rw [decide_eq_true hx]; rfl
    wp_walk using wpAny_loadPart' hl
    repeat (first
      | (refine wpAny_ite_false (decide_eq_false (by rw [c0]; exact Bool.false_ne_true)) ?_; wp_walk using wpAny_loadPart' hl)
      | (refine wpAny_ite_false (decide_eq_false (by rw [c1]; exact Bool.false_ne_true)) ?_; wp_walk using wpAny_loadPart' hl)
      | (refine wpAny_ite_true (decide_eq_true c2) ?_; wp_walk using wpAny_loadPart' hl))
    exact ⟨_, rfl, h⟩
def rRepT1 (K : PySem.W.Frag) : R2 := fun x y H Q => ∃ l k xs, x = .ref l ∧ y = .int k ∧ SqT K H l xs ∧ ((k = 1 ∧ Q (.ref l) H) ∨ (k ≤ 0 ∧ -(2 ^ 63) ≤ k ∧ xs ≠ [] ∧ ∀ p, H p = none → Q (.ref p) (upd H p (.tup []))))
theorem op_repT1 {X : Cx} : OpR X (binaryOp .Mult) (rRepT1 X.K) := by
  intro pins s σ H x y v u Q I rx ry h
  obtain ⟨l, k, xs, rfl, rfl, hT, q⟩ := h
  cases rx
  obtain ⟨t, rfl⟩ := ry
  obtain ⟨its, r, ⟨⟨cls, dd, data, sl⟩, ho, hc, n, hd⟩, hs⟩ := I.tuple hT
  simp only at hc hd
  subst hc hd
  rcases q with ⟨hk, q⟩ | ⟨hk, hk2, hne, q⟩
  · refine wpAny_binaryOp_repeat_ref (T := "tuple") (U := "int") (by decide) ⟨_, ho, rfl⟩ (fun s' => typeIs_int s' k t) noFill_tuple_mul F.fills_int_mul F.slot_int_rmul repeat_tuple F.slot_int_index.lookup
      (call_meets F.slot_int_rmul (typeIs_int s k t) F.entry_int_rmul (F.args_int_rmul_2 _ _) (int_rmul_tuple k t l its.toArray n dd sl)
        ⟨ho, rfl, ⟨_, ho, rfl⟩, call_meets F.slot_tuple_mul ⟨_, ho, rfl⟩ F.entry_tuple_mul (F.args_tuple_mul_2 _ _) (tuple_mul1 l its.toArray n dd sl k t hk) ⟨ho, ?_⟩⟩)
    exact ⟨.ref l, H, I, rfl, q⟩
  · have hi : its.toArray.isEmpty = false := by
      cases its with
      | nil => exact absurd (List.eq_nil_of_length_eq_zero r.length) hne
      | cons a b => rfl
    refine wpAny_binaryOp_repeat_ref (T := "tuple") (U := "int") (by decide) ⟨_, ho, rfl⟩ (fun s' => typeIs_int s' k t) noFill_tuple_mul F.fills_int_mul F.slot_int_rmul repeat_tuple F.slot_int_index.lookup
      (call_meets F.slot_int_rmul (typeIs_int s k t) F.entry_int_rmul (F.args_int_rmul_2 _ _) (int_rmul_tuple k t l its.toArray n dd sl)
        ⟨ho, rfl, ⟨_, ho, rfl⟩, call_meets F.slot_tuple_mul ⟨_, ho, rfl⟩ F.entry_tuple_mul (F.args_tuple_mul_2 _ _) (tuple_mul0 l its.toArray n dd sl k t hk hk2 hi) ⟨ho, ?_⟩⟩)
    refine ⟨.ref s.heap.objs.size, _, I.laid (t' := s.toks) (o := .tup []) (fun b ob q => Heap.get?_push_of_some _ q) (Nat.le_refl _) ?_, rfl, q _ (I.hok.fresh (Nat.le_refl _))⟩
    exact ⟨Nat.zero_le _, [], .nil, IsTup.new _ _⟩
end DL

set_option Elab.async false
set_option linter.all false
set_option maxRecDepth 100000
set_option maxHeartbeats 4000000
namespace DL
open PySem PySem.Spec PyProof.Rows L2 RZ

section
variable {X : Cx} {K : PySem.W.Frag} {mg : Str → Option Value}
/-! ### arithmetic -/
def dAdd : D2 := fun x y S Q => match x, y with
  | .int i, .int j => Q (.int (i + j)) S
  | .str i, .str j => i.length + j.length ≤ sizeLine ∧ Q (.str (i ++ j)) S
  | .tup xs, .tup ys => xs.length + ys.length ≤ sizeLine ∧ Q (.tup (xs ++ ys)) S
  | .ref a, .ref b => ∃ xs ys, S a = some (.lst xs) ∧ S b = some (.lst ys) ∧ xs.length + ys.length ≤ sizeLine ∧ ∀ p, S p = none → Q (.ref p) (up1 S p (.lst (xs ++ ys)))
  | _, _ => False
def rAddAll (K : PySem.W.Frag) : R2 := fun x y H Q => (((∃ i j, x = .int i ∧ y = .int j ∧ Q (.int (i + j)) H) ∨ (∃ i j, x = .str i ∧ y = .str j ∧ i.length + j.length ≤ sizeLine ∧ Q (.str (i ++ j)) H)) ∨ rCatA K x y H Q) ∨ rCat x y H Q
theorem op_addAll : OpR X (binaryOp .Add) (rAddAll X.K) := ((op_add.or op_add_str).or op_catA).or op_cat
theorem add_ok : Op2 K mg (rAddAll K) dAdd := by
  intro S H x y v u P Q s rx ry h k
  cases rx <;> cases ry <;> first
    | exact h.elim
    | exact .inl (.inl (.inl ⟨_, _, rfl, rfl, k.now s (.int _) h⟩))
    | exact .inl (.inl (.inr ⟨_, _, rfl, rfl, h.1, k.now s (.str _) h.2⟩))
    | skip
  · obtain ⟨xs, ys, ha, hb, hl, q⟩ := h
    obtain ⟨us, h1, r1⟩ := s.lst ha
    obtain ⟨vs, h2, r2⟩ := s.lst hb
    exact .inr ⟨_, _, us, vs, rfl, rfl, h1, h2, by rw [← r1.length, ← r2.length]; exact hl, k.newL s (r1.append r2) q⟩
  · rename_i a xs ds s1 r1 b ys es s2 r2
    obtain ⟨hl, q⟩ := h
    refine .inl (.inr ⟨_, _, _, _, rfl, rfl, s1.sq, s2.sq, by rw [← r1.length, ← r2.length]; exact hl, fun e => ?_, fun _ e => ?_, fun _ _ => k.newT s (r1.append r2) q⟩)
    · subst e
      cases r1
      exact k.now s (.tup s2 r2) q
    · subst e
      cases r2
      rw [List.append_nil] at q
      exact k.now s (.tup s1 r1) q
def dSub : D2 := fun x y S Q => match x, y with
  | .int i, .int j => Q (.int (i - j)) S
  | _, _ => False
theorem sub_ok : Op2 K mg (rI0 fun i j => .int (i - j)) dSub := by
  intro S H x y v u P Q s rx ry h k
  cases rx <;> cases ry <;> first
    | exact h.elim
    | exact ⟨_, _, rfl, rfl, k.now s (.int _) h⟩
/-- one of two factors small, or both together not too great -/
def CMulA (i j : Int) : Prop := CMul i j ∨ CMulW i j
def dMul : D2 := fun x y S Q => match x, y with
  | .int i, .int j => CMulA i j ∧ Q (.int (i * j)) S
  | .ref a, .int j => ∃ xs, S a = some (.lst xs) ∧ -(2 ^ 63) ≤ j ∧ j < 2 ^ 63 ∧ xs.length * j.toNat ≤ sizeLine ∧ ∀ p, S p = none → Q (.ref p) (up1 S p (.lst (List.replicate j.toNat xs).flatten))
  | .tup xs, .int j => xs ≠ [] ∧ -(2 ^ 63) ≤ j ∧ j ≤ 1000 ∧ xs.length ≤ 1000 ∧ Q (.tup (List.replicate j.toNat xs).flatten) S
  | _, _ => False
def rMulAll (K : PySem.W.Frag) : R2 := fun x y H Q => (((rI CMul (fun i j => .int (i * j)) x y H Q ∨ rI CMulW (fun i j => .int (i * j)) x y H Q) ∨ rRep x y H Q) ∨ rRepT K x y H Q) ∨ rRepT1 K x y H Q
theorem op_mulAll : OpR X (binaryOp .Mult) (rMulAll X.K) := (((op_mul.or op_mulW).or op_rep).or op_repT).or op_repT1
theorem mul_ok : Op2 K mg (rMulAll K) dMul := by
  intro S H x y v u P Q s rx ry h k
  cases rx <;> cases ry <;> first
    | exact h.elim
    | skip
  · rcases h.1 with c | c
    · exact .inl (.inl (.inl (.inl ⟨_, _, rfl, rfl, c, k.now s (.int _) h.2⟩)))
    · exact .inl (.inl (.inl (.inr ⟨_, _, rfl, rfl, c, k.now s (.int _) h.2⟩)))
  · obtain ⟨xs, ha, h1, h2, hl, q⟩ := h
    obtain ⟨us, e1, r1⟩ := s.lst ha
    exact .inl (.inl (.inr ⟨_, _, us, rfl, rfl, e1, h1, h2, by rw [← r1.length]; exact hl, k.newL s (r1.rep _) q⟩))
  · rename_i a xs ds s1 r1 j
    obtain ⟨hne, h1, h2, hl, q⟩ := h
    have e := r1.length
    have hne' : xs ≠ [] := fun z => hne (List.eq_nil_of_length_eq_zero (by rw [e, z]; rfl))
    by_cases c1 : j = 1
    · subst c1
      refine .inr ⟨_, _, _, rfl, rfl, s1.sq, .inl ⟨rfl, ?_⟩⟩
      have q' : P (.tup ds) S := by
        have e2 : (List.replicate (Int.toNat 1) ds).flatten = ds := by
          show [ds].flatten = ds
          simp
        rw [e2] at q; exact q
      exact k.now s (.tup s1 r1) q'
    · by_cases c0 : j ≤ 0
      · refine .inr ⟨_, _, _, rfl, rfl, s1.sq, .inr ⟨c0, h1, hne', ?_⟩⟩
        have e2 : j.toNat = 0 := by omega
        rw [e2] at q
        exact k.newT s .nil q
      · exact .inl (.inr ⟨_, _, _, rfl, rfl, s1.sq, hne', by omega, h2, by omega, k.newT s (r1.rep _) q⟩)
def dFdiv : D2 := fun x y S Q => match x, y with
  | .int i, .int j => CDivW i j ∧ Q (.int (i / j)) S
  | _, _ => False
theorem fdiv_ok : Op2 K mg (rI CDivW fun i j => .int (i / j)) dFdiv := by
  intro S H x y v u P Q s rx ry h k
  cases rx <;> cases ry <;> first
    | exact h.elim
    | exact ⟨_, _, rfl, rfl, h.1, k.now s (.int _) h.2⟩
def dMod : D2 := fun x y S Q => match x, y with
  | .int i, .int j => 0 < j ∧ Q (.int (i % j)) S
  | _, _ => False
theorem mod_ok : Op2 K mg (rI (fun _ j => 0 < j) fun i j => .int (i % j)) dMod := by
  intro S H x y v u P Q s rx ry h k
  cases rx <;> cases ry <;> first
    | exact h.elim
    | exact ⟨_, _, rfl, rfl, h.1, k.now s (.int _) h.2⟩
def dPow : D2 := fun x y S Q => match x, y with
  | .int i, .int j => CPow i j ∧ Q (.int (i ^ j.toNat)) S
  | _, _ => False
theorem pow_ok : Op2 K mg (rI CPow fun i j => .int (i ^ j.toNat)) dPow := by
  intro S H x y v u P Q s rx ry h k
  cases rx <;> cases ry <;> first
    | exact h.elim
    | exact ⟨_, _, rfl, rfl, h.1, k.now s (.int _) h.2⟩
def dNeg : D1 := fun x S Q => match x with
  | .int i => Q (.int (-i)) S
  | _ => False
theorem neg_ok : Op1 K mg (rU fun i => .int (-i)) dNeg := by
  intro S H x v P Q s rx h k
  cases rx <;> first
    | exact h.elim
    | exact ⟨_, rfl, k.now s (.int _) h⟩

/-! ### == by data -/
mutual
inductive Dd (S : Sto) : D → PyData → Prop where
  | non : Dd S .non .none
  | bl (b : Bool) : Dd S (.bl b) (.bool b)
  | int (i : Int) : Dd S (.int i) (.int i)
  | str (x : Str) : Dd S (.str x) (.str x)
  | tup {ds : List D} {ps : List PyData} : DdL S ds ps → Dd S (.tup ds) (.tuple ps)
  | lst {a : Addr} {ds : List D} {ps : List PyData} : LA S a ds → DdL S ds ps → Dd S (.ref a) (.list ps)
inductive DdL (S : Sto) : List D → List PyData → Prop where
  | nil : DdL S [] []
  | cons {d : D} {p : PyData} {ds : List D} {ps : List PyData} : Dd S d p → DdL S ds ps → DdL S (d :: ds) (p :: ps)
end
mutual
theorem Dd.dp {S : Sto} {H : Hp} (s : StO K mg S H) : ∀ {d : D} {p : PyData} {v : V}, Dd S d p → Rp K mg H d v → Dp K H v p
  | _, _, _, .non, r => by cases r; exact .non
  | _, _, _, .bl b, r => by cases r; exact .bl b
  | _, _, _, .int i, r => by cases r; exact .int i
  | _, _, _, .str x, r => by cases r; exact .str x
  | _, _, _, .tup h, r => by
    cases r with
    | tup sq rl => exact .tup sq.sq (DdL.dp s h rl)
  | _, _, _, .lst l h, r => by
    cases r with
    | ref a =>
      obtain ⟨xs, sq, rl⟩ := s.sqL l
      exact .lst sq (DdL.dp s h rl)
theorem DdL.dp {S : Sto} {H : Hp} (s : StO K mg S H) : ∀ {d : List D} {p : List PyData} {v : List V}, DdL S d p → RpL K mg H d v → DpAll K H v p
  | _, _, _, .nil, r => by cases r; exact .nil
  | _, _, _, .cons h t, r => by
    cases r with
    | cons r1 r2 => exact .cons (Dd.dp s h r1) (DdL.dp s t r2)
end
def dEq : D2 := fun x y S Q => (∃ p q, Dd S x p ∧ Dd S y q ∧ SeqAt.shaped p = true ∧ SeqAt.shaped q = true ∧ Q (.bl (PyData.eqv p q)) S) ∨ ∃ a b, x = .str a ∧ y = .str b ∧ Q (.bl (decide (a = b))) S
def dNe : D2 := fun x y S Q => (∃ p q, Dd S x p ∧ Dd S y q ∧ SeqAt.shaped p = true ∧ SeqAt.shaped q = true ∧ Q (.bl (!PyData.eqv p q)) S) ∨ ∃ a b, x = .str a ∧ y = .str b ∧ Q (.bl (!decide (a = b))) S
def rEqA (K : PySem.W.Frag) : R2 := fun x y H Q => rEqD K x y H Q ∨ rEq x y H Q
def rNeA (K : PySem.W.Frag) : R2 := fun x y H Q => rNeD K x y H Q ∨ rNe x y H Q
theorem op_eqA (hu : X.A.units + 64 < cLine) : OpR X (compareOp .Eq) (rEqA X.K) := (op_eqD hu).or op_eq
theorem op_neA (hu : X.A.units + 64 < cLine) : OpR X (compareOp .NotEq) (rNeA X.K) := (op_neD hu).or op_ne
theorem dec_vstr {a b : Str} : decide (V.str a = V.str b) = decide (a = b) := by
  rw [Bool.eq_iff_iff]
  simp
theorem eq_ok : Op2 K mg (rEqA K) dEq := by
  intro S H x y v u P Q s rx ry h k
  rcases h with ⟨p, q, h1, h2, h3, h4, h⟩ | ⟨a, b, rfl, rfl, h⟩
  · exact .inl ⟨p, q, h1.dp s rx, h2.dp s ry, h3, h4, k.now s (.bl _) h⟩
  · cases rx; cases ry
    exact .inr ⟨rfl, by rw [dec_vstr]; exact k.now s (.bl _) h⟩
theorem ne_ok : Op2 K mg (rNeA K) dNe := by
  intro S H x y v u P Q s rx ry h k
  rcases h with ⟨p, q, h1, h2, h3, h4, h⟩ | ⟨a, b, rfl, rfl, h⟩
  · exact .inl ⟨p, q, h1.dp s rx, h2.dp s ry, h3, h4, k.now s (.bl _) h⟩
  · cases rx; cases ry
    exact .inr ⟨rfl, by rw [dec_vstr]; exact k.now s (.bl _) h⟩
/-! ### order of ints -/
def dCmpI (f : Int → Int → Bool) : D2 := fun x y S Q => match x, y with
  | .int i, .int j => Q (.bl (f i j)) S
  | _, _ => False
theorem cmpI_ok (f : Int → Int → Bool) : Op2 K mg (rI0 fun i j => .bl (f i j)) (dCmpI f) := by
  intro S H x y v u P Q s rx ry h k
  cases rx <;> cases ry <;> first
    | exact h.elim
    | exact ⟨_, _, rfl, rfl, k.now s (.bl _) h⟩
/-- is None, is True -/
def dIs (neg : Bool) : D2 := fun x y S Q => match x, y with
  | .bl a, .bl b => Q (.bl (if neg then !decide (a = b) else decide (a = b))) S
  | .non, .non => Q (.bl (!neg)) S
  | .bl _, .non => Q (.bl neg) S
  | .int _, .non => Q (.bl neg) S
  | .str _, .non => Q (.bl neg) S
  | .tup _, .non => Q (.bl neg) S
  | .ref _, .non => Q (.bl neg) S
  | _, _ => False
def rIsAll (neg : Bool) : R2 := fun x y H Q => (y = .non ∧ Q (.bl (if neg then !decide (x = .non) else decide (x = .non))) H) ∨ ∃ a b, x = .bl a ∧ y = .bl b ∧ Q (.bl (if neg then !decide (a = b) else decide (a = b))) H
theorem op_isAll : OpR X (compareOp .Is) (rIsAll false) := op_isN.or op_isBl
theorem op_isNotAll : OpR X (compareOp .IsNot) (rIsAll true) := op_notN.or op_notBl
theorem is_ok (neg : Bool) : Op2 K mg (rIsAll neg) (dIs neg) := by
  intro S H x y v u P Q s rx ry h k
  cases rx <;> cases ry <;> first
    | exact h.elim
    | exact .inr ⟨_, _, rfl, rfl, k.now s (.bl _) h⟩
    | (refine .inl ⟨rfl, k.now s (.bl _) ?_⟩; cases neg <;> exact h)
/-! ### subscripts -/
theorem atI_rp {H : Hp} {ds : List D} {vs : List V} {i : Int} {d : D} (r : RpL K mg H ds vs) (h : atI ds i = some d) : ∃ v, atI vs i = some v ∧ Rp K mg H d v := by
  unfold atI at h ⊢
  rw [← r.length]
  cases e : ixN ds.length i with
  | none => rw [e] at h; cases h
  | some j =>
    rw [e] at h
    exact r.get h
def dIx : D2 := fun x y S Q => match x, y with
  | .tup ds, .int i => ∃ d, atI ds i = some d ∧ Q d S
  | .ref a, .int i => ∃ ds d, LA S a ds ∧ atI ds i = some d ∧ Q d S
  | .str z, .int i => ∃ c, z.length ≤ sizeLine ∧ atI z.cps.toList i = some c ∧ Q (.str ⟨#[c]⟩) S
  | _, _ => False
theorem ix_ok : Op2 K mg (rIx K) dIx := by
  intro S H x y v u P Q s rx ry h k
  cases rx <;> cases ry <;> first
    | exact h.elim
    | skip
  · obtain ⟨c, hz, e, q⟩ := h
    exact .inr (.inr ⟨_, _, c, rfl, rfl, hz, e, k.now s (.str _) q⟩)
  · obtain ⟨ds, d, l, e, q⟩ := h
    obtain ⟨xs, sq, rl⟩ := s.sqL l
    obtain ⟨w, e2, rw'⟩ := atI_rp rl e
    exact .inl ⟨_, xs, _, w, rfl, rfl, sq, e2, k.now s rw' q⟩
  · rename_i a xs ds s1 r1 i
    obtain ⟨d, e, q⟩ := h
    obtain ⟨w, e2, rw'⟩ := atI_rp r1 e
    exact .inr (.inl ⟨_, _, _, w, rfl, rfl, s1.sq, e2, k.now s rw' q⟩)
def cutD (xs : List D) (lo hi : Option Int) : List D := (xs.drop (HT.sIx xs.length 0 lo)).take (HT.sIx xs.length xs.length hi - HT.sIx xs.length 0 lo)
theorem cut_rp {H : Hp} {ds : List D} {vs : List V} (r : RpL K mg H ds vs) (lo hi : Option Int) : RpL K mg H (cutD ds lo hi) (cutV vs lo hi) := by
  unfold cutD cutV
  rw [r.length]
  exact (r.drop _).take _
def dSlc : DSl := fun x lo hi S Q => match x with
  | .lw ds => ∀ p, S p = none → Q (.ref p) (up1 S p (.lst (cutD ds lo hi)))
  | .tup ds => Q (.tup (cutD ds lo hi)) S
  | .ref a => ∃ ds, LA S a ds ∧ ∀ p, S p = none → Q (.ref p) (up1 S p (.lst (cutD ds lo hi)))
  | _ => False
theorem sl_ok : OpSl K mg (fun x lo hi H Q => rSlA K x lo hi H Q ∨ rSlL K x lo hi H Q) dSlc := by
  intro S H x v lo hi P Q s rx h k
  cases rx <;> first
    | exact h.elim
    | skip
  · obtain ⟨ds, l, q⟩ := h
    obtain ⟨xs, sq, rl⟩ := s.sqL l
    exact .inr ⟨_, xs, rfl, sq, k.newL s (cut_rp rl lo hi) q⟩
  · rename_i a xs ds s1 r1
    refine .inl ⟨_, _, rfl, s1.sq, fun e => ?_, fun _ => k.newT s (cut_rp r1 lo hi) h⟩
    have ec : cutD ds lo hi = ds := by
      unfold cutD
      rw [r1.length, e.1, e.2, List.drop_zero, Nat.sub_zero, ← r1.length, List.take_length]
    have h' : P (.tup (cutD ds lo hi)) S := h
    rw [ec] at h'
    exact k.now s (.tup s1 r1) h'
  · rename_i a xs ds s1 r1
    exact .inr ⟨_, _, rfl, s1.sq, k.newL s (cut_rp r1 lo hi) h⟩
theorem sl_all : SlR X (fun x lo hi H Q => rSlA X.K x lo hi H Q ∨ rSlL X.K x lo hi H Q) := sl_tupA.or sl_list
/-! ### stores -/
def dSetL : D3 := fun x y d S Q => match x, y with
  | .ref a, .int i => ∃ ds j, S a = some (.lst ds) ∧ ixN ds.length i = some j ∧ Q (up1 S a (.lst (ds.set j d)))
  | _, _ => False
theorem setL_ok : Op3 K mg rSetL dSetL := by
  intro S H x y d v u w P Q s rx ry rd h k
  cases rx <;> cases ry <;> first
    | exact h.elim
    | skip
  obtain ⟨ds, j, ha, e, q⟩ := h
  obtain ⟨xs, h1, rl⟩ := s.lst ha
  refine ⟨_, xs, _, j, rfl, rfl, h1, by rw [← rl.length]; exact e, k _ _ (Tr.wrote ha) (s.wrote ha (.lst (rl.set rd j))) q⟩
theorem pget_list : PGet X (rIxL X.K) := by
  intro pins s σ H x y v u Q I rx ry h
  obtain ⟨p, xs, i, z, rfl, rfl, hq, he, q⟩ := h
  cases rx
  obtain ⟨t, rfl⟩ := ry
  obtain ⟨its, r, pl, hz⟩ := I.list hq
  obtain ⟨j, h1, h2, h3, h4, h5⟩ := atI_get he
  obtain ⟨w, ew, rw'⟩ := r.get h2
  have hl := r.length
  have hn := line63
  have fin : EP X pins σ Q w s := ⟨z, H, I, rw', q⟩
  by_cases h0 : 0 ≤ i
  · have hj : i.toNat = j := by
      rw [seqIndex_of h0 h5] at h1
      exact Option.some.inj h1
    exact wpAny_getItem_list pl.isList h0 (by omega) (by rw [hj]; simpa using ew) fin
  · have hj : (i + (its.toArray.size : Int)).toNat = j := by
      rw [seqIndex_neg (by omega) h4] at h1
      rw [List.size_toArray, ← hl]
      exact Option.some.inj h1
    exact wpAny_getItem_list_neg pl.isList (by omega) (by rw [List.size_toArray] <;> omega) (by omega) (by rw [hj]; simpa using ew) fin
def dIxL : D2 := fun x y S Q => match x, y with
  | .ref a, .int i => ∃ ds d, LA S a ds ∧ atI ds i = some d ∧ Q d S
  | _, _ => False
theorem ixL_ok : Op2 K mg (rIxL K) dIxL := by
  intro S H x y v u P Q s rx ry h k
  cases rx <;> cases ry <;> first
    | exact h.elim
    | skip
  obtain ⟨ds, d, l, e, q⟩ := h
  obtain ⟨xs, sq, rl⟩ := s.sqL l
  obtain ⟨w, e2, rw'⟩ := atI_rp rl e
  exact ⟨_, xs, _, w, rfl, rfl, sq, e2, k.now s rw' q⟩
/-! ### methods of lists -/
def dAppend : DM := fun x vs S Q => match x, vs with
  | .ref a, [y] => ∃ ds, S a = some (.lst ds) ∧ ds.length < sizeLine ∧ Q .non (up1 S a (.lst (ds ++ [y])))
  | _, _ => False
theorem RpL.o1 {H : Hp} {d : D} {vs : List V} (r : RpL K mg H [d] vs) : ∃ v, vs = [v] ∧ Rp K mg H d v := by
  cases r with | cons r t => cases t; exact ⟨_, rfl, r⟩
theorem RpL.o2 {H : Hp} {d e : D} {vs : List V} (r : RpL K mg H [d, e] vs) : ∃ v w, vs = [v, w] ∧ Rp K mg H d v ∧ Rp K mg H e w := by
  cases r with | cons r t => obtain ⟨w, rfl, q⟩ := RpL.o1 t; exact ⟨_, _, rfl, r, q⟩
theorem append_ok : OpM K mg rAppend dAppend := by
  intro S H x xs v vs P Q s rx rxs h k
  cases rx <;> first
    | exact h.elim
    | skip
  match xs, h, rxs with
  | [], h, _ => exact h.elim
  | [y], h, rxs =>
    obtain ⟨w, rfl, ry⟩ := rxs.o1
    obtain ⟨ds, ha, hl, q⟩ := h
    obtain ⟨us, h1, rl⟩ := s.lst ha
    exact ⟨_, us, w, rfl, rfl, h1, by rw [← rl.length]; exact hl, k _ _ _ _ (Tr.wrote ha) (s.wrote ha (.lst (rl.append (.one ry)))) .non q⟩
  | _ :: _ :: _, h, _ => exact h.elim
def dExtend : DM := fun x vs S Q => match x, vs with
  | .ref a, [.ref b] => ∃ ds es, S a = some (.lst ds) ∧ S b = some (.lst es) ∧ ds.length + es.length ≤ sizeLine ∧ Q .non (up1 S a (.lst (ds ++ es)))
  | _, _ => False
theorem extend_inv {x : D} {vs : List D} {S : Sto} {Q : DQ} (h : dExtend x vs S Q) : ∃ a b ds es, x = .ref a ∧ vs = [.ref b] ∧ S a = some (.lst ds) ∧ S b = some (.lst es) ∧ ds.length + es.length ≤ sizeLine ∧ Q .non (up1 S a (.lst (ds ++ es))) := by
  unfold dExtend at h
  split at h
  · obtain ⟨ds, es, h⟩ := h
    exact ⟨_, _, ds, es, rfl, rfl, h⟩
  · exact h.elim
theorem extend_ok : OpM K mg rExtend dExtend := by
  intro S H x xs v vs P Q s rx rxs h k
  obtain ⟨a, b, ds, es, rfl, rfl, ha, hb, hl, q⟩ := extend_inv h
  cases rx
  obtain ⟨w, rfl, ry⟩ := rxs.o1
  cases ry
  obtain ⟨us, h1, r1⟩ := s.lst ha
  obtain ⟨ws, h2, r2⟩ := s.lst hb
  exact ⟨_, _, us, ws, rfl, rfl, h1, h2, by rw [← r1.length, ← r2.length]; exact hl, k _ _ _ _ (Tr.wrote ha) (s.wrote ha (.lst (r1.append r2))) .non q⟩
def dPopAt : DM := fun x vs S Q => match x, vs with
  | .ref a, [.int i] => ∃ ds j y, S a = some (.lst ds) ∧ -(2 ^ 63) ≤ i ∧ i < 2 ^ 63 ∧ seqIndex? i ds.length = some j ∧ ds[j]? = some y ∧ Q y (up1 S a (.lst (ds.eraseIdx j)))
  | .ref a, [] => ∃ ds y, S a = some (.lst ds) ∧ ds[ds.length - 1]? = some y ∧ Q y (up1 S a (.lst ds.dropLast))
  | _, _ => False
end
end DL

set_option Elab.async false
set_option linter.all false
set_option maxRecDepth 100000
set_option maxHeartbeats 4000000
namespace DL
open PySem PySem.Spec PyProof.Rows
/-! ### zip while the tuple that it gave out is still held, over two drawn iterators -/
section
variable {prog : Program} {w : World} {A : Around} {E : Value → Shared → Prop} {s : Shared} {z TI TO T i1 i2 : Addr} {fp1 fp2 : List Addr} {n1 n2 i : Nat} {P1 P2 : Nat → Value → Prop} {St1 St2 : Nat → Heap → Prop} {f : Bool} {oT : Obj}
theorem heldD_item {Q : Value → Shared → Prop} (S : ZipSep2 z TI TO i1 i2 fp1 fp2) (D1 : Draws prog w A i1 fp1 n1 P1 St1) (D2 : Draws prog w A i2 fp2 n2 P2 St2)
    (hz : IsZipHeld s.heap z TI TO T f) (hT : s.heap.get? T = some oT) (hTI : IsTupOf2 s.heap TI (.ref i1) (.ref i2)) (st1 : St1 i s.heap) (st2 : St2 i s.heap) (hlt1 : i < n1) (hlt2 : i < n2)
    (hQ : ∀ x1 x2 h' tk, P1 i x1 → P2 i x2 → IsZipHeld h' z TI TO T true → St1 (i + 1) h' → St2 (i + 1) h' → IsTupOf2 h' s.heap.objs.size x1 x2 → h'.objs.size = s.heap.objs.size + 1 →
      (∀ c o, c ≠ z → c ≠ i1 → c ≠ i2 → s.heap.get? c = some o → h'.get? c = some o) → Q (.ref s.heap.objs.size) { s with heap := h', toks := tk }) :
    wpAny (model prog w) A (Builtin.«zip.__next__» ⟨[.ref z], []⟩) (fun fin s' => ∃ v, fin = .done (.ret v) ∧ Q v s') E s := by
  obtain ⟨hp, g, d, tk0, os⟩ := s
  show wpAny _ _ (field (.ref z) 2 >>= _) _ _ _
  refine wpAny_bind (wpAny_field hz rfl (x := .bool false) rfl ?_)
  show wpAny _ _ (field (.ref z) 3 >>= _) _ _ _
  refine wpAny_bind (wpAny_field hz rfl (x := .ref TI) rfl ?_)
  refine wpAny_bind (wpAny_seqItems hTI rfl ?_)
  show wpAny _ _ (Builtin.SmallTypes.ownedTupleIsFree (.ref z) >>= _) _ _ _
  refine wpAny_bind (wpAny_tupleHeld_zip hz hT fun h1 hz1 hs1 => ?_)
  replace hs1 : Heap.SameBut z hp h1 := hs1
  simp only [Bool.false_eq_true, if_false]
  refine wpAny_bind ?_
  rw [← Array.forIn_toList]
  simp only [List.forIn_cons, List.forIn_nil]
  refine wpAny_bind (wpAny_bind (wpAny_holding ?_))
  show wpAny _ _ (Builtin.SmallTypes.nextOf (.ref i1) >>= _) _ _ ⟨h1, g, d, tk0, os⟩
  refine wpAny_bind (D1.item i _ _ _ hlt1 (D1.over st1 hs1 S.zf1) fun x1 h2 tk1 hx1 sn1 hs2 => wpAny_pure ?_)
  replace hs2 : Heap.SameBut i1 h1 h2 := hs2
  refine wpAny_pure ?_
  refine wpAny_bind (wpAny_bind (wpAny_holding ?_))
  show wpAny _ _ (Builtin.SmallTypes.nextOf (.ref i2) >>= _) _ _ ⟨h2, g, d, tk1, os⟩
  refine wpAny_bind (D2.item i _ _ _ hlt2 (D2.over (D2.over st2 hs1 S.zf2) hs2 S.sep1_2) fun x2 h3 tk2 hx2 sn2 hs3 => wpAny_pure ?_)
  replace hs3 : Heap.SameBut i2 h2 h3 := hs3
  refine wpAny_pure (wpAny_pure ?_)
  show wpAny _ _ (newTuple [x1, x2] >>= _) _ _ ⟨h3, g, d, tk2, os⟩
  refine wpAny_bind (wpAny_newTuple ?_)
  have hsz : h3.objs.size = hp.objs.size := by rw [hs3.1, hs2.1, hs1.1]
  have hz3 : IsZipHeld h3 z TI TO T true := hs3.extBut _ _ S.zi2 (hs2.extBut _ _ S.zi1 hz1)
  have hk : ∀ c o, c ≠ z → c ≠ i1 → c ≠ i2 → hp.get? c = some o → h3.get? c = some o := fun c o c1 c2 c3 e => hs3.extBut _ _ c3 (hs2.extBut _ _ c2 (hs1.extBut _ _ c1 e))
  have sn1' : St1 (i + 1) h3 := D1.over sn1 hs3 S.sep2_1
  refine wpAny_pure ⟨_, rfl, ?_⟩
  show Q (.ref h3.objs.size) _
  have hpr : IsTupOf2 (h3.push { cls := .type "tuple", data := .seq #[x1, x2] }) h3.objs.size x1 x2 := Heap.get?_push_size _ rfl
  have hz4 : (h3.push { cls := .type "tuple", data := .seq #[x1, x2] }).objs.size = h3.objs.size + 1 := Heap.size_push ..
  rw [hsz] at hpr hz4 ⊢
  exact hQ x1 x2 _ tk2 hx1 hx2 (Heap.get?_push_of_some _ hz3) (D1.frame _ _ _ sn1' fun b _ o e => Heap.get?_push_of_some _ e) (D2.frame _ _ _ sn2 fun b _ o e => Heap.get?_push_of_some _ e) hpr hz4 fun c o c1 c2 c3 e => Heap.get?_push_of_some _ (hk c o c1 c2 c3 e)
theorem heldD_end {Q : Fin → Shared → Prop} (S : ZipSep2 z TI TO i1 i2 fp1 fp2) (D1 : Draws prog w A i1 fp1 n1 P1 St1) (D2 : Draws prog w A i2 fp2 n2 P2 St2)
    (hz : IsZipHeld s.heap z TI TO T f) (hT : s.heap.get? T = some oT) (hTI : IsTupOf2 s.heap TI (.ref i1) (.ref i2)) (st1 : St1 i s.heap) (st2 : St2 i s.heap) (hle1 : i ≤ n1) (hle2 : i ≤ n2) (hend : i = n1 ∨ i = n2)
    (hE : ∀ h' tk e, (∀ c o, c ≠ z → c ≠ i1 → c ≠ i2 → s.heap.get? c = some o → h'.get? c = some o) → (∃ o, h'.get? e = some o ∧ o.cls = .type "StopIteration") → E (.ref e) { s with heap := h', toks := tk }) :
    wpAny (model prog w) A (Builtin.«zip.__next__» ⟨[.ref z], []⟩) Q E s := by
  obtain ⟨hp, g, d, tk0, os⟩ := s
  show wpAny _ _ (field (.ref z) 2 >>= _) _ _ _
  refine wpAny_bind (wpAny_field hz rfl (x := .bool false) rfl ?_)
  show wpAny _ _ (field (.ref z) 3 >>= _) _ _ _
  refine wpAny_bind (wpAny_field hz rfl (x := .ref TI) rfl ?_)
  refine wpAny_bind (wpAny_seqItems hTI rfl ?_)
  show wpAny _ _ (Builtin.SmallTypes.ownedTupleIsFree (.ref z) >>= _) _ _ _
  refine wpAny_bind (wpAny_tupleHeld_zip hz hT fun h1 hz1 hs1 => ?_)
  replace hs1 : Heap.SameBut z hp h1 := hs1
  simp only [Bool.false_eq_true, if_false]
  refine wpAny_bind ?_
  rw [← Array.forIn_toList]
  simp only [List.forIn_cons, List.forIn_nil]
  refine wpAny_bind (wpAny_bind (wpAny_holding ?_))
  show wpAny _ _ (Builtin.SmallTypes.nextOf (.ref i1) >>= _) _ _ ⟨h1, g, d, tk0, os⟩
  by_cases h1n : i = n1
  · subst h1n
    refine wpAny_bind (D1.done _ _ _ (D1.over st1 hs1 S.zf1) fun h2 e hs2 he => ?_)
    exact hE h2 tk0 e (fun c o c1 c2 _ x => hs2 _ _ c2 (hs1.extBut _ _ c1 x)) he
  · have h2n : i = n2 := by omega
    refine wpAny_bind (D1.item i _ _ _ (by omega) (D1.over st1 hs1 S.zf1) fun x1 h2 tk1 hx1 sn1 hs2 => wpAny_pure ?_)
    replace hs2 : Heap.SameBut i1 h1 h2 := hs2
    refine wpAny_pure ?_
    refine wpAny_bind (wpAny_bind (wpAny_holding ?_))
    show wpAny _ _ (Builtin.SmallTypes.nextOf (.ref i2) >>= _) _ _ ⟨h2, g, d, tk1, os⟩
    have st2' := D2.over (D2.over st2 hs1 S.zf2) hs2 S.sep1_2
    subst h2n
    refine wpAny_bind (D2.done _ _ _ st2' fun h3 e hs3 he => ?_)
    exact hE h3 tk1 e (fun c o c1 c2 c3 x => hs3 _ _ c3 (hs2.extBut _ _ c2 (hs1.extBut _ _ c1 x))) he
theorem pyNext_heldD_item {Q : Option Value → Shared → Prop} (S : ZipSep2 z TI TO i1 i2 fp1 fp2) (D1 : Draws prog w A.in1 i1 fp1 n1 P1 St1) (D2 : Draws prog w A.in1 i2 fp2 n2 P2 St2)
    (hz : IsZipHeld s.heap z TI TO T f) (hT : s.heap.get? T = some oT) (hTI : IsTupOf2 s.heap TI (.ref i1) (.ref i2)) (st1 : St1 i s.heap) (st2 : St2 i s.heap) (hlt1 : i < n1) (hlt2 : i < n2)
    (hQ : ∀ x1 x2 h' tk, P1 i x1 → P2 i x2 → IsZipHeld h' z TI TO T true → St1 (i + 1) h' → St2 (i + 1) h' → IsTupOf2 h' s.heap.objs.size x1 x2 → h'.objs.size = s.heap.objs.size + 1 →
      (∀ c o, c ≠ z → c ≠ i1 → c ≠ i2 → s.heap.get? c = some o → h'.get? c = some o) → Q (some (.ref s.heap.objs.size)) { s with heap := h', toks := tk }) :
    wpAny (model prog w) A (pyNext (.ref z)) Q E s := by
  have hTy : s.TypeIs (.ref z) "zip" := ⟨_, hz, rfl⟩
  unfold pyNext
  exact wpAny_bind (wpAny_attempt (wpAny_callSpecial?_slot (name := Str.ofString "__next__") hTy F.slot_zip_next
    (wpAny_call_entry F.slot_zip_next hTy F.entry_zip_next
      (heldD_item S D1 D2 hz hT hTI st1 st2 hlt1 hlt2 fun x1 x2 h' tk y1 y2 b1 d1 d2 b5 b6 b7 => wpAny_pure (hQ x1 x2 h' tk y1 y2 b1 d1 d2 b5 b6 b7)) (F.args_zip_next_1 _))))
theorem pyNext_heldD_end {Q : Option Value → Shared → Prop} (S : ZipSep2 z TI TO i1 i2 fp1 fp2) (D1 : Draws prog w A.in1 i1 fp1 n1 P1 St1) (D2 : Draws prog w A.in1 i2 fp2 n2 P2 St2)
    (hz : IsZipHeld s.heap z TI TO T f) (hT : s.heap.get? T = some oT) (hTI : IsTupOf2 s.heap TI (.ref i1) (.ref i2)) (st1 : St1 i s.heap) (st2 : St2 i s.heap) (hle1 : i ≤ n1) (hle2 : i ≤ n2) (hend : i = n1 ∨ i = n2)
    (hQ : ∀ h' tk, (∀ c o, c ≠ z → c ≠ i1 → c ≠ i2 → s.heap.get? c = some o → h'.get? c = some o) → Q none { s with heap := h', toks := tk }) : wpAny (model prog w) A (pyNext (.ref z)) Q E s := by
  have hTy : s.TypeIs (.ref z) "zip" := ⟨_, hz, rfl⟩
  unfold pyNext
  refine wpAny_bind (wpAny_attempt (wpAny_callSpecial?_slot (name := Str.ofString "__next__") hTy F.slot_zip_next
    (wpAny_call_entry F.slot_zip_next hTy F.entry_zip_next (heldD_end S D1 D2 hz hT hTI st1 st2 hle1 hle2 hend fun h' tk e hk he => ?_) (F.args_zip_next_1 _))))
  obtain ⟨o, ho, hc⟩ := he
  refine wpAny_bind (wpAny_isInstance (T := "StopIteration") (b := true) ⟨o, ho, hc⟩ isSubtype_stop ?_)
  exact wpAny_pure (hQ _ _ hk)
end

/-! ### list(zip(..)) -/
/-- the zip's state: nothing out yet, or the tuple T that it gave out stands -/
def ZSt (h : Heap) (z TI TO i1 i2 S : Addr) (i : Nat) (St1 St2 : Nat → Heap → Prop) : Prop :=
  IsTupOf2 h TI (.ref i1) (.ref i2) ∧ St1 i h ∧ St2 i h ∧
  ((IsZip h z TI TO .none ∧ ∃ a b, IsTupOf2 h TO a b) ∨ ∃ (T : Addr) (f : Bool) (oT : Obj), IsZipHeld h z TI TO T f ∧ h.get? T = some oT ∧ T ≠ z ∧ T ≠ i1 ∧ T ≠ i2 ∧ T ≠ S)
structure ZG (P1 P2 : Nat → Value → Prop) (lo : Addr) (h : Heap) (as : List Addr) : Prop where
  above : ∀ a ∈ as, lo < a
  nd : as.Nodup
  pairs : ∀ (j : Nat) (a : Addr), as[j]? = some a → ∃ x y, P1 j x ∧ P2 j y ∧ h.get? a = some { cls := .type "tuple", data := .seq #[x, y] }
section
variable {prog : Program} {w : World} {A : Around} {E : Value → Shared → Prop} {s : Shared} {R : Result → Shared → Prop} {z TI TO i1 i2 S : Addr} {fp1 fp2 : List Addr} {n1 n2 : Nat} {P1 P2 : Nat → Value → Prop} {St1 St2 : Nat → Heap → Prop}
theorem zl_next {i : Nat} {Q : Option Value → Shared → Prop} (Z : ZipSep2 z TI TO i1 i2 fp1 fp2) (D1 : Draws prog w A.in1 i1 fp1 n1 P1 St1) (D2 : Draws prog w A.in1 i2 fp2 n2 P2 St2) (zs : ZSt s.heap z TI TO i1 i2 S i St1 St2) (hlt1 : i < n1) (hlt2 : i < n2)
    (hS : S < s.heap.objs.size) (hmx : z < s.heap.objs.size ∧ i1 < s.heap.objs.size ∧ i2 < s.heap.objs.size)
    (hQ : ∀ x1 x2 h' tk, P1 i x1 → P2 i x2 → ZSt h' z TI TO i1 i2 S (i + 1) St1 St2 → IsTupOf2 h' s.heap.objs.size x1 x2 → h'.objs.size = s.heap.objs.size + 1 →
      (∀ c o, c ≠ z → c ≠ TO → c ≠ i1 → c ≠ i2 → s.heap.get? c = some o → h'.get? c = some o) → Q (some (.ref s.heap.objs.size)) { s with heap := h', toks := tk }) : wpAny (model prog w) A (pyNext (.ref z)) Q E s := by
  obtain ⟨hTI, st1, st2, ⟨hz, a, b, hTO⟩ | ⟨T, f, oT, hz, hT, _, _, _, _⟩⟩ := zs
  · refine wpAny_pyNext_zipD2_item Z D1 D2 hz hTI hTO st1 st2 hlt1 hlt2 fun x1 x2 h' tk y1 y2 b1 b2 d1 d2 b5 b6 hk => ?_
    exact hQ x1 x2 h' tk y1 y2 ⟨hk _ _ Z.TIz Z.TITO Z.TIi1 Z.TIi2 hTI, d1, d2, .inr ⟨_, false, _, b1, b5, Nat.ne_of_gt hmx.1, Nat.ne_of_gt hmx.2.1, Nat.ne_of_gt hmx.2.2, Nat.ne_of_gt hS⟩⟩ b5 b6 hk
  · refine pyNext_heldD_item Z D1 D2 hz hT hTI st1 st2 hlt1 hlt2 fun x1 x2 h' tk y1 y2 b1 d1 d2 b5 b6 hk => ?_
    exact hQ x1 x2 h' tk y1 y2 ⟨hk _ _ Z.TIz Z.TIi1 Z.TIi2 hTI, d1, d2, .inr ⟨T, true, oT, b1, hk _ _ (by assumption) (by assumption) (by assumption) hT, by assumption, by assumption, by assumption, by assumption⟩⟩ b5 b6 fun c o c1 _ c3 c4 e => hk c o c1 c3 c4 e
theorem zl_end {i : Nat} {Q : Option Value → Shared → Prop} (Z : ZipSep2 z TI TO i1 i2 fp1 fp2) (D1 : Draws prog w A.in1 i1 fp1 n1 P1 St1) (D2 : Draws prog w A.in1 i2 fp2 n2 P2 St2) (zs : ZSt s.heap z TI TO i1 i2 S i St1 St2) (hle1 : i ≤ n1) (hle2 : i ≤ n2) (hend : i = n1 ∨ i = n2)
    (hQ : ∀ h' tk, (∀ c o, c ≠ z → c ≠ TO → c ≠ i1 → c ≠ i2 → s.heap.get? c = some o → h'.get? c = some o) → Q none { s with heap := h', toks := tk }) : wpAny (model prog w) A (pyNext (.ref z)) Q E s := by
  obtain ⟨hTI, st1, st2, ⟨hz, a, b, hTO⟩ | ⟨T, f, oT, hz, hT, _, _, _, _⟩⟩ := zs
  · exact wpAny_pyNext_zipD2_end Z D1 D2 hz hTI hTO st1 st2 hle1 hle2 hend hQ
  · exact pyNext_heldD_end Z D1 D2 hz hT hTI st1 st2 hle1 hle2 hend fun h' tk hk => hQ h' tk fun c o c1 _ c3 c4 e => hk c o c1 c3 c4 e
/-- S is none of the zip's cells; fp1, fp2 lie below S or are the iterators -/
theorem zl_loop (Z : ZipSep2 z TI TO i1 i2 fp1 fp2) (D1 : Draws prog w A.in1.in1 i1 fp1 n1 P1 St1) (D2 : Draws prog w A.in1.in1 i2 fp2 n2 P2 St2) (hSf : S ≠ z ∧ S ≠ TI ∧ S ≠ TO ∧ S ∉ fp1 ∧ S ∉ fp2) (hn : min n1 n2 ≤ sizeLine) (res : Value) {h1 : Heap} {lo : Addr}
    (hR : ∀ h' tk acc c as, (∀ b o, b ≠ S → b ≠ z → b ≠ TO → b ≠ i1 → b ≠ i2 → h1.get? b = some o → h'.get? b = some o) → h'.get? S = some { cls := .type "list", dict := none, data := .seq acc c, slots := #[] } → as.length = min n1 n2 → ZG P1 P2 lo h' as →
      acc.toList = as.map Value.ref → R (.ok (.ret res)) { s with heap := h', toks := tk }) :
    ∀ (k i : Nat) (h : Heap) (tk c : Nat) (acc : Array Value) (as : List Addr), min n1 n2 - i = k → i ≤ min n1 n2 → ZSt h z TI TO i1 i2 S i St1 St2 → (∀ b o, b ≠ S → b ≠ z → b ≠ TO → b ≠ i1 → b ≠ i2 → h1.get? b = some o → h.get? b = some o) →
      h.get? S = some { cls := .type "list", dict := none, data := .seq acc c, slots := #[] } → acc.toList = as.map Value.ref → as.length = i → ZG P1 P2 lo h as → (lo < h.objs.size ∧ S ≤ lo ∧ z ≤ lo ∧ TO ≤ lo ∧ i1 ≤ lo ∧ i2 ≤ lo) →
      codeAny (model prog w) A (.builtin "list.extend.loop" ⟨[.ref S, .ref z, res], []⟩) R { s with heap := h, toks := tk } := by
  obtain ⟨sz, sTI, sTO, sf1, sf2⟩ := hSf
  have si1 : S ≠ i1 := fun e => sf1 (by rw [e]; exact Z.mem1)
  have si2 : S ≠ i2 := fun e => sf2 (by rw [e]; exact Z.mem2)
  intro k
  induction k with
  | zero =>
    intro i h tk c acc as hk hi hst hkeep hS hacc hal hG ⟨l0, l1, l2, l3, l4, l5⟩
    refine codeAny_builtin PySem.F.entry_extend_loop ?_
    rw [Around.under_plainId PySem.F.plain_extend_loop _]
    show wpAny _ A.in1 (pyNext (.ref z) >>= _) _ _ _
    refine wpAny_bind (zl_end (s := { s with heap := h, toks := tk }) (A := A.in1) Z D1 D2 hst (by omega) (by omega) (by omega) fun h' tk' he => ?_)
    refine wpAny_pure (hR h' tk' acc c as (fun b o c1 c2 c3 c4 c5 e => he b o c2 c3 c4 c5 (hkeep b o c1 c2 c3 c4 c5 e)) (he S _ sz sTO si1 si2 hS) (by omega) ⟨hG.above, hG.nd, fun j a hj => ?_⟩ hacc)
    obtain ⟨x, y, p1, p2, e3⟩ := hG.pairs j a hj
    have ha : lo < a := hG.above a (List.mem_of_getElem? hj)
    have nn : ∀ b : Addr, b ≤ lo → a ≠ b := fun b hb => Nat.ne_of_gt (Nat.lt_of_le_of_lt hb ha)
    exact ⟨x, y, p1, p2, he a _ (nn z l2) (nn TO l3) (nn i1 l4) (nn i2 l5) e3⟩
  | succ k ih =>
    intro i h tk c acc as hk hi hst hkeep hS hacc hal hG ⟨l0, l1, l2, l3, l4, l5⟩
    have hlt : i < min n1 n2 := by omega
    have hsz : acc.size = i := by rw [← Array.length_toList, hacc, List.length_map, hal]
    have hSl : S < h.objs.size := Heap.lt_size hS
    refine codeAny_builtin PySem.F.entry_extend_loop ?_
    rw [Around.under_plainId PySem.F.plain_extend_loop _]
    show wpAny _ A.in1 (pyNext (.ref z) >>= _) _ _ _
    refine wpAny_bind (zl_next (s := { s with heap := h, toks := tk }) (A := A.in1) (S := S) Z D1 D2 hst (by omega) (by omega) hSl ⟨Nat.lt_of_le_of_lt l2 l0, Nat.lt_of_le_of_lt l4 l0, Nat.lt_of_le_of_lt l5 l0⟩ fun x1 x2 h' tk' y1 y2 hst' ht hz hkp => ?_)
    dsimp only at ht hz hkp ⊢
    have hS' := hkp S _ sz sTO si1 si2 hS
    have up : ∀ b o, b ≠ S → h'.get? b = some o → (h'.update S (Obj.mapSeq (·.push (Value.ref h.objs.size)))).get? b = some o := fun b o hb e => (Heap.get?_update_other _ _ (Ne.symm hb)).trans e
    have hst'' : ZSt (h'.update S (Obj.mapSeq (·.push (Value.ref h.objs.size)))) z TI TO i1 i2 S (i + 1) St1 St2 := by
      obtain ⟨q1, q2, q3, q4⟩ := hst'
      refine ⟨up _ _ sTI.symm q1, D1.frame _ _ _ q2 fun b hb o e => up b o (fun q => sf1 (by rw [← q]; exact hb)) e, D2.frame _ _ _ q3 fun b hb o e => up b o (fun q => sf2 (by rw [← q]; exact hb)) e, ?_⟩
      rcases q4 with ⟨g1, a, b, g2⟩ | ⟨T, f, oT, g1, g2, c1, c2, c3, c4⟩
      · exact .inl ⟨up _ _ sz.symm g1, a, b, up _ _ sTO.symm g2⟩
      · exact .inr ⟨T, f, oT, up _ _ sz.symm g1, up _ _ c4 g2, c1, c2, c3, c4⟩
    show wpAny _ A.in1 (updateSeq S (·.push (Value.ref h.objs.size)) >>= _) _ _ _
    refine wpAny_bind ?_
    refine wpAny_updateSeq hS' rfl (wpAny_pure ⟨plainId_quiet PySem.F.plain_extend_loop _, ih (i + 1) _ tk' _ (acc.push (Value.ref h.objs.size)) (as ++ [h.objs.size]) (by omega) hlt hst''
      (fun b o c1 c2 c3 c4 c5 e => up b o c1 (hkp b o c2 c3 c4 c5 (hkeep b o c1 c2 c3 c4 c5 e))) (Heap.get?_update_self _ hS' rfl) (by rw [Array.toList_push, hacc, List.map_append]; rfl) (by rw [List.length_append, hal]; rfl) ⟨?_, ?_, ?_⟩ ?_⟩) (by rw [hsz]; omega) (by show (acc.push (Value.ref h.objs.size)).size ≤ sizeLine + 1; rw [Array.size_push, hsz]; omega)
    · intro a ha
      rcases List.mem_append.mp ha with ha | ha
      · exact hG.above a ha
      · rw [List.mem_singleton.mp ha]; exact l0
    · refine List.nodup_append.mpr ⟨hG.nd, by simp, fun a ha b hb => ?_⟩
      rw [List.mem_singleton.mp hb]
      obtain ⟨j, hj⟩ := List.mem_iff_getElem?.mp ha
      obtain ⟨x, y, _, _, e3⟩ := hG.pairs j a hj
      exact Nat.ne_of_lt (Heap.lt_size e3)
    · intro j b hj
      rcases Nat.lt_trichotomy j as.length with g1 | g1 | g1
      · rw [List.getElem?_append_left g1] at hj
        obtain ⟨x, y, p1, p2, e3⟩ := hG.pairs j b hj
        have hb : lo < b := hG.above b (List.mem_of_getElem? hj)
        have nn : ∀ q : Addr, q ≤ lo → b ≠ q := fun q hq => Nat.ne_of_gt (Nat.lt_of_le_of_lt hq hb)
        exact ⟨x, y, p1, p2, up b _ (nn S l1) (hkp b _ (nn z l2) (nn TO l3) (nn i1 l4) (nn i2 l5) e3)⟩
      · subst g1
        have hb : h.objs.size = b := by simpa using hj
        subst hb
        exact ⟨x1, x2, by rw [hal]; exact y1, by rw [hal]; exact y2, up _ _ (Nat.ne_of_gt hSl) ht⟩
      · have hnone : (as ++ [h.objs.size])[j]? = none := List.getElem?_eq_none (by rw [List.length_append, List.length_singleton]; omega)
        rw [hnone] at hj; cases hj
    · have e : (h'.update S (Obj.mapSeq (·.push (Value.ref h.objs.size)))).get? h.objs.size = _ := up _ _ (Nat.ne_of_gt hSl) ht
      exact ⟨Nat.lt_trans l0 (Heap.lt_size e), l1, l2, l3, l4, l5⟩
end
end DL

set_option Elab.async false
set_option linter.all false
set_option maxRecDepth 100000
set_option maxHeartbeats 4000000
namespace DL
open PySem PySem.Spec PyProof.Rows
theorem zip_no_len : typeLookup (.type "zip") "__len__" = pure none := am_miss_of_fast (by decide +kernel)
theorem zip_no_hint : typeLookup (.type "zip") "__length_hint__" = pure none := am_miss_of_fast (by decide +kernel)
section
variable {prog : Program} {w : World} {A : Around} {E : Value → Shared → Prop} {s : Shared} {R : Result → Shared → Prop} {z TI TO i1 i2 S : Addr} {fp1 fp2 : List Addr} {n1 n2 : Nat} {P1 P2 : Nat → Value → Prop} {St1 St2 : Nat → Heap → Prop}
theorem zip_hint (hT : s.TypeIs (.ref z) "zip") {Q : Bool → Shared → Prop} (h : Q true s) : wpAny (model prog w) A (Builtin.List.listLengthHint (.ref z)) Q E s := by
  unfold Builtin.List.listLengthHint
  refine wpAny_bind (wpAny_specialOf hT zip_no_len ?_)
  refine wpAny_ite_split (fun hab => absurd hab (by decide)) (fun _ => ?_)
  refine wpAny_ite_split (fun hab => absurd hab (by decide)) (fun _ => ?_)
  refine wpAny_bind (wpAny_specialOf hT zip_no_hint ?_)
  exact wpAny_pure h
/-- a fresh zip: its five cells -/
structure ZNew (h : Heap) (z TI TO i1 i2 : Addr) (St1 St2 : Nat → Heap → Prop) : Prop where
  zip : IsZip h z TI TO .none
  ti : IsTupOf2 h TI (.ref i1) (.ref i2)
  to : IsTupOf2 h TO .none .none
  s1 : St1 0 h
  s2 : St2 0 h
theorem zl_extend (hh : A.handled = none) (Z : ZipSep2 z TI TO i1 i2 fp1 fp2) (D1 : Draws prog w A.in1.in1 i1 fp1 n1 P1 St1) (D2 : Draws prog w A.in1.in1 i2 fp2 n2 P2 St2) (zn : ZNew s.heap z TI TO i1 i2 St1 St2)
    (hSf : S ≠ z ∧ S ≠ TI ∧ S ≠ TO ∧ S ∉ fp1 ∧ S ∉ fp2) (hlo : S + 1 = s.heap.objs.size) (hle : z < s.heap.objs.size ∧ TO < s.heap.objs.size ∧ i1 < s.heap.objs.size ∧ i2 < s.heap.objs.size) (res : Value) (c0 : Nat) (hS : s.heap.get? S = some { cls := .type "list", data := .seq #[] c0 })
    (hR : ∀ h' tk acc c as, (∀ b o, b ≠ S → b ≠ z → b ≠ TO → b ≠ i1 → b ≠ i2 → s.heap.get? b = some o → h'.get? b = some o) → h'.get? S = some { cls := .type "list", dict := none, data := .seq acc c, slots := #[] } → as.length = min n1 n2 → ZG P1 P2 S h' as →
      acc.toList = as.map Value.ref → R (.ok (.ret res)) { s with heap := h', toks := tk }) (hn : min n1 n2 ≤ sizeLine) :
    wpAny (model prog w) A.in1 (Builtin.List.listExtendWith (.ref S) (.ref z) res)
      (fun fin s' => match fin with | .done f => R (.ok f) s' | .again c' => c'.quiet = true ∧ codeAny (model prog w) A c' R s') (fun e s' => R (.error e) s') s := by
  have hT : s.TypeIs (.ref z) "zip" := ⟨_, zn.zip, rfl⟩
  have zl : ∀ {a : Addr}, a < s.heap.objs.size → a ≤ S := fun {a} h => Nat.le_of_lt_succ (by rw [← hlo] at h; exact h)
  have key : ∀ (h : Heap) (c1 tk : Nat), (∀ b o, b ≠ S → s.heap.get? b = some o → h.get? b = some o) → s.heap.objs.size ≤ h.objs.size →
      h.get? S = some { cls := .type "list", data := .seq #[] c1 } → codeAny (model prog w) A (.builtin "list.extend.loop" ⟨[.ref S, .ref z, res], []⟩) R { s with heap := h, toks := tk } := by
    intro h c1 tk hk hsz hS1
    have si1 : S ≠ i1 := fun e => hSf.2.2.2.1 (by rw [e]; exact Z.mem1)
    have si2 : S ≠ i2 := fun e => hSf.2.2.2.2 (by rw [e]; exact Z.mem2)
    have zs : ZSt h z TI TO i1 i2 S 0 St1 St2 := ⟨hk _ _ hSf.2.1.symm zn.ti, D1.frame _ _ _ zn.s1 fun b hb o e => hk b o (fun q => hSf.2.2.2.1 (by rw [← q]; exact hb)) e, D2.frame _ _ _ zn.s2 fun b hb o e => hk b o (fun q => hSf.2.2.2.2 (by rw [← q]; exact hb)) e,
      .inl ⟨hk _ _ hSf.1.symm zn.zip, _, _, hk _ _ hSf.2.2.1.symm zn.to⟩⟩
    exact zl_loop (s := s) (h1 := s.heap) (lo := S) Z D1 D2 hSf hn res hR (min n1 n2) 0 h tk c1 #[] [] (Nat.sub_zero _) (Nat.zero_le _) zs (fun b o c1 _ _ _ _ e => hk b o c1 e) hS1 rfl rfl
      ⟨(fun _ ha => nomatch ha), .nil, (fun j a hj => by simp at hj)⟩ ⟨Nat.lt_of_lt_of_le (by rw [← hlo]; exact Nat.lt_succ_self _) hsz, Nat.le_refl _, zl hle.1, zl hle.2.1, zl hle.2.2.1, zl hle.2.2.2⟩
  unfold Builtin.List.listExtendWith
  refine wpAny_bind (wpAny_typeOf (T := "zip") hT ?_)
  have h1 : Builtin.List.listSameRef (.ref S) (.ref z) = false := by simp [Builtin.List.listSameRef, hSf.1]
  have h2 : (Value.type "zip" == Value.type "list") = false := by decide
  have h3 : (Value.type "zip" == Value.type "tuple") = false := by decide
  simp only [h1, h2, h3, Bool.or_false, Bool.false_eq_true, if_false]
  refine wpAny_bind (wpAny_pyIter_zip zn.zip ?_)
  refine wpAny_bind (wpAny_holding (zip_hint hT ?_))
  refine wpAny_ite_split (fun _ => ?_) (fun _ => wpAny_pure ⟨plainId_quiet PySem.F.plain_extend_loop _, key _ c0 _ (fun b o _ e => e) (Nat.le_refl _) hS⟩)
  refine wpAny_bind (wpAny_rule ?_)
  refine wpAny_bind ?_
  show wpAny _ _ (updateSeq S (·.push .none) >>= fun _ => updateSeq S (·.pop)) _ _ _
  refine wpAny_bind (wpAny_updateSeq hS rfl ?_)
  have hS2 := Heap.get?_update_self (Obj.mapSeq (·.push Value.none)) hS rfl
  refine wpAny_updateSeq (hz := by seq_fits) hS2 rfl ?_
  have hS3 := Heap.get?_update_self (Obj.mapSeq (·.pop)) hS2 rfl
  refine wpAny_pure ⟨plainId_quiet PySem.F.plain_extend_loop _, key _ _ _ (fun b o hb e => ?_) ?_ hS3⟩
  · exact (Heap.get?_update_other _ _ (Ne.symm hb)).trans ((Heap.get?_update_other _ _ (Ne.symm hb)).trans e)
  · rw [Heap.size_update, Heap.size_update]; exact Nat.le_refl _
theorem zl_call {Q : Value → Shared → Prop} (hh : A.handled = none) (Z : ZipSep2 z TI TO i1 i2 fp1 fp2) (D1 : Draws prog w A.in1.in1.in1 i1 fp1 n1 P1 St1) (D2 : Draws prog w A.in1.in1.in1 i2 fp2 n2 P2 St2) (zn : ZNew s.heap z TI TO i1 i2 St1 St2)
    (hle : z < s.heap.objs.size ∧ TI < s.heap.objs.size ∧ TO < s.heap.objs.size ∧ i1 < s.heap.objs.size ∧ i2 < s.heap.objs.size) (hf : (∀ b ∈ fp1, b < s.heap.objs.size) ∧ ∀ b ∈ fp2, b < s.heap.objs.size) (hn : min n1 n2 ≤ sizeLine)
    (hQ : ∀ h' tk acc c as, (∀ b o, b ≠ z → b ≠ TO → b ≠ i1 → b ≠ i2 → s.heap.get? b = some o → h'.get? b = some o) → h'.get? s.heap.objs.size = some { cls := .type "list", dict := none, data := .seq acc c, slots := #[] } → as.length = min n1 n2 → ZG P1 P2 s.heap.objs.size h' as →
      acc.toList = as.map Value.ref → Q (.ref s.heap.objs.size) { s with heap := h', toks := tk }) :
    wpAny (model prog w) A (call (.type "list") [.ref z]) Q E s := by
  refine callType_codes (Q₁ := fun obj s₁ => obj = .ref s.heap.objs.size ∧ s₁ = { s with heap := s.heap.push { cls := .type "list", data := .seq #[] } }) PySem.F.called_list (PySem.F.typeCall_list_1 _) PySem.F.entry_list_init
    (code_list_new _ ⟨rfl, rfl⟩) fun obj s₁ h₁ => ?_
  obtain ⟨rfl, rfl⟩ := h₁
  have hS : (s.heap.push { cls := .type "list", data := .seq #[] }).get? s.heap.objs.size = some { cls := .type "list", data := .seq #[] } := Heap.get?_push_size _ rfl
  have gt : ∀ {a : Addr}, a < s.heap.objs.size → s.heap.objs.size ≠ a := fun h => Nat.ne_of_gt h
  refine ⟨⟨_, hS, rfl⟩, PySem.F.args_list_init_2 _ _, ?_⟩
  show wpAny _ _ (do let old ← Builtin.List.listItems (.ref s.heap.objs.size); Builtin.List.listUpdate (.ref s.heap.objs.size) (fun _ => #[]); letGo old.toList.reverse; Builtin.List.listExtendWith (.ref s.heap.objs.size) (.ref z) .none) _ _ _
  refine wpAny_bind ?_
  unfold Builtin.List.listItems
  refine wpAny_bind (wpAny_seqItems hS rfl (wpAny_pure ?_))
  show wpAny _ _ (updateSeq s.heap.objs.size (fun _ => #[]) >>= fun _ => letGo (#[] : Array Value).toList.reverse >>= fun _ => Builtin.List.listExtendWith (.ref s.heap.objs.size) (.ref z) .none) _ _ _
  refine wpAny_bind (wpAny_updateSeq hS rfl ?_)
  have hS2 := Heap.get?_update_self (Obj.mapSeq (fun _ => (#[] : Array Value))) hS rfl
  have oth : ∀ b o, b ≠ s.heap.objs.size → s.heap.get? b = some o → ((s.heap.push { cls := .type "list", data := .seq #[] }).update s.heap.objs.size (Obj.mapSeq (fun _ => (#[] : Array Value)))).get? b = some o :=
    fun b o hb e => (Heap.get?_update_other _ _ (Ne.symm hb)).trans (Heap.get?_push_of_some _ e)
  have lt : ∀ {b o}, s.heap.get? b = some o → b ≠ s.heap.objs.size := fun e => Nat.ne_of_lt (Heap.lt_size e)
  have sz : ((s.heap.push { cls := .type "list", data := .seq #[] }).update s.heap.objs.size (Obj.mapSeq (fun _ => (#[] : Array Value)))).objs.size = s.heap.objs.size + 1 := by rw [Heap.size_update, Heap.size_push]
  refine wpAny_bind (wpAny_letGo ?_)
  refine zl_extend (A := A.in1) (s := { s with heap := (s.heap.push { cls := .type "list", data := .seq #[] }).update s.heap.objs.size (Obj.mapSeq (fun _ => (#[] : Array Value))) }) (S := s.heap.objs.size) hh Z D1 D2
    ⟨oth _ _ (lt zn.zip) zn.zip, oth _ _ (lt zn.ti) zn.ti, oth _ _ (lt zn.to) zn.to, D1.frame _ _ _ zn.s1 fun b _ o e => oth b o (lt e) e, D2.frame _ _ _ zn.s2 fun b _ o e => oth b o (lt e) e⟩
    ⟨gt hle.1, gt hle.2.1, gt hle.2.2.1, fun m => Nat.lt_irrefl _ (hf.1 _ m), fun m => Nat.lt_irrefl _ (hf.2 _ m)⟩ sz.symm ?_ .none _ hS2 (fun h' tk acc c as hk hS' hl hG hacc => ?_) hn
  · show z < _ ∧ TO < _ ∧ i1 < _ ∧ i2 < _
    simp only [sz]
    exact ⟨Nat.lt_succ_of_lt hle.1, Nat.lt_succ_of_lt hle.2.2.1, Nat.lt_succ_of_lt hle.2.2.2.1, Nat.lt_succ_of_lt hle.2.2.2.2⟩
  · exact ⟨rfl, hQ h' tk acc c as (fun b o c1 c2 c3 c4 e => hk b o (lt e) c1 c2 c3 c4 (oth b o (lt e) e)) hS' hl hG hacc⟩
end
end DL

set_option Elab.async false
set_option linter.all false
set_option maxRecDepth 100000
set_option maxHeartbeats 4000000
namespace DL
open PySem PySem.Spec PyProof.Rows L2 RZ
/-! ### lists and tuples alike: k = true is a tuple -/
def SqK (K : PySem.W.Frag) : Bool → Hp → Addr → List V → Prop
  | false, H, a, xs => SqL K H a xs
  | true, H, a, xs => SqT K H a xs
def IsSq (h : Heap) : Bool → Addr → Array Value → Prop
  | false, a, its => h.IsList a its
  | true, a, its => h.IsTuple a its
def IsIt (h : Heap) : Bool → Addr → Addr → Nat → Prop
  | false, it, a, i => h.IsListIter it a i
  | true, it, a, i => h.IsTupleIter it a i
def itO : Bool → Addr → Obj
  | false, a => { cls := .type "list_iterator", data := .fields #[.ref a, .int 0 0] }
  | true, a => { cls := .type "tuple_iterator", data := .fields #[.ref a, .int 0 0] }
theorem drawsK {prog : Program} {w : World} {A : Around} (hh : A.handled = none) (k : Bool) (it a : Addr) (hne : a ≠ it) (its : Array Value) :
    Draws prog w A it [it, a] its.size (fun i v => its[i]? = some v) (fun i h => IsIt h k it a i ∧ IsSq h k a its) := by
  cases k
  · exact Draws.list hh it a hne its
  · exact Draws.tuple hh it a hne its
theorem beginsK (k : Bool) (a : Addr) (its : Array Value) : Begins (.ref a) (itO k a) fun h => IsSq h k a its := by
  cases k
  · exact begins_list a its
  · exact begins_tuple a its
theorem IsSq.lt {h : Heap} {k : Bool} {a : Addr} {its : Array Value} (q : IsSq h k a its) : a < h.objs.size := by
  cases k
  · obtain ⟨o, e, _⟩ := id q
    exact Heap.lt_size e
  · obtain ⟨o, e, _⟩ := id q
    exact Heap.lt_size e
theorem IsSq.cls {h : Heap} {k : Bool} {a : Addr} {its : Array Value} (q : IsSq h k a its) : ∃ o n, h.get? a = some o ∧ o.data = .seq its n := by
  cases k
  · obtain ⟨o, e, _, n, d⟩ := id q
    exact ⟨o, n, e, d⟩
  · obtain ⟨o, e, _, n, d⟩ := id q
    exact ⟨o, n, e, d⟩
theorem IsIt.cls {h : Heap} {k : Bool} {a it : Addr} {i : Nat} (q : IsIt h k it a i) : ∃ o, h.get? it = some o ∧ o.data = .fields #[.ref a, .int i 0] := by
  cases k
  · obtain ⟨o, e, _, d⟩ := id q
    exact ⟨o, e, d⟩
  · obtain ⟨o, e, _, d⟩ := id q
    exact ⟨o, e, d⟩
theorem IsIt.at {h h' : Heap} {k : Bool} {a it : Addr} {i : Nat} (q : IsIt h k it a i) (hk : ∀ o, h.get? it = some o → h'.get? it = some o) : IsIt h' k it a i := by
  cases k
  · exact Heap.IsListIter.at q hk
  · exact Heap.IsTupleIter.at q hk
theorem IsSq.at {h h' : Heap} {k : Bool} {a : Addr} {its : Array Value} (q : IsSq h k a its) (hk : ∀ o, h.get? a = some o → h'.get? a = some o) : IsSq h' k a its := by
  cases k
  · exact Heap.IsList.at q hk
  · exact Heap.IsTuple.at q hk
theorem IsIt.new {h : Heap} {k : Bool} {a it : Addr} (q : h.get? it = some (itO k a)) : IsIt h k it a 0 := by
  cases k
  · exact ⟨_, q, rfl, rfl⟩
  · exact ⟨_, q, rfl, rfl⟩
section
variable {X : Cx} {pins : List (Addr × Obj)} {σ : L2.St} {H : Hp} {s : Shared}
theorem Inv.sqK {k : Bool} {a : Addr} {xs : List V} (I : Inv X pins σ H s) (h : SqK X.K k H a xs) : ∃ its, Vals xs its ∧ IsSq s.heap k a its.toArray := by
  cases k
  · obtain ⟨its, r, p, _⟩ := I.list h
    exact ⟨its, r, p.isList⟩
  · obtain ⟨its, r, p, _⟩ := I.tuple h
    exact ⟨its, r, p⟩
theorem Inv.sqK_inj {k : Bool} {a : Addr} {xs ys : List V} (I : Inv X pins σ H s) (h : SqK X.K k H a xs) (h' : SqK X.K k H a ys) : xs = ys := by
  cases k
  · exact I.list_inj h h'
  · exact I.tuple_inj h h'
end
/-! ### enumerate of a list or of a tuple -/
def Itek (K : PySem.W.Frag) (k : Bool) (k0 : Int) (a : Addr) : It :=
  ⟨fun i H => ∃ (xs : List V) (x : V), SqK K k H a xs ∧ xs[i]? = some x, fun i H v H' => ∃ T x, v = .ref T ∧ H T = none ∧ H' = upd H T (.tup [.int (k0 + (i : Nat)), x]) ∧ ∀ xs, SqK K k H a xs → xs[i]? = some x, fun i H => ∃ xs : List V, SqK K k H a xs ∧ xs.length = i⟩
theorem turn_enumK {P : Program} {w : World} {K : PySem.W.Frag} {elts : List Expr} {kk : Nat} {tpos : Pos} (k : Bool) (k0 : Int) (a e it : Addr) :
    Turn P w K (.Tuple elts kk tpos) (Itek K k k0 a) [e, it] e (fun i h => (∃ old, IsEnum h e it (k0 + ((i : Nat) : Int)) old) ∧ IsIt h k it a i ∧ e ≠ it) where
  mem := by simp
  obj := fun i h st b hb => by
    obtain ⟨⟨old, he⟩, hit, _⟩ := st
    obtain ⟨o, ho, hd⟩ := hit.cls
    have e' : b = e ∨ b = it := by simpa using hb
    rcases e' with z | z
    · rw [z]; exact ⟨_, he, fun v q => nomatch q⟩
    · rw [z]; exact ⟨o, ho, fun v q => by rw [hd] at q; cases q⟩
  keep := fun i h h' st kp => let ⟨⟨old, he⟩, hi, hne⟩ := st; ⟨⟨old, kp e (by simp) _ he⟩, hi.at fun o q => kp it (by simp) o q, hne⟩
  item := by
    intro X hP hw hK hc i pins s σ H E I hf st hg
    subst hP hw hK
    obtain ⟨⟨old, he⟩, hit, hne⟩ := st
    obtain ⟨xs, x, hq, hx⟩ := hg
    obtain ⟨its, rv, p⟩ := Inv.sqK I hq
    obtain ⟨u, hu, ru⟩ := rv.get hx
    have hel : e < s.heap.objs.size := Heap.lt_size he
    obtain ⟨oi, hoi, hdi⟩ := hit.cls
    have hil : it < s.heap.objs.size := Heap.lt_size hoi
    obtain ⟨oa, na, hoa, hda⟩ := p.cls
    have hai : a ≠ it := fun z => by
      rw [z, hoi] at hoa
      cases hoa
      rw [hda] at hdi; cases hdi
    have hae : e ≠ a := fun z => by
      rw [← z, he] at hoa
      cases hoa
      cases hda
    have hil' : i < its.toArray.size := by
      have := (List.getElem?_eq_some_iff.mp hu).1
      simpa using this
    refine wpAny_pyNext_enum_itemC (drawsK (A := X.A.in1) (prog := X.prog) (w := X.w) (show X.A.in1.handled = none from I.ok.hd hc) k it a hai its.toArray) he ⟨hit, p⟩ hil' hne (by simp [hne, hae]) fun x' h' tk hx' ho hit' hT hsz hk => ?_
    have eu : x' = u := by
      have hx2 : its[i]? = some x' := by simpa using hx'
      rw [hu] at hx2; exact (Option.some.inj hx2).symm
    subst eu
    refine ⟨_, rfl, wpAny_letOwnedTupleGo_enum (s := { s with heap := h', toks := tk + 1 }) ho fun h'' he' sb => ?_⟩
    have hT2 : h''.get? s.heap.objs.size = some { cls := .type "tuple", data := .seq #[.int (k0 + (i : Nat)) tk, x'] } := (sb.2 _ (Nat.ne_of_gt hel)).trans hT
    have new : ObjOk X.prog X.w (upd H s.heap.objs.size (.tup [.int (k0 + (i : Nat)), x])) h'' s.heap.objs.size (.tup [.int (k0 + (i : Nat)), x]) :=
      ⟨by show 2 ≤ sizeLine; decide, [.int (k0 + (i : Nat)) tk, x'], .cons ⟨_, rfl⟩ (.cons ru .nil), ⟨_, hT2, rfl, _, rfl⟩⟩
    have I1 : Inv X pins σ (upd H s.heap.objs.size (.tup [.int (k0 + (i : Nat)), x])) { s with heap := h'', toks := tk + 1 } :=
      I.turnedNew (ch := [e, it]) (fun b ob hb q => (sb.2 b (fun z => hb (by simp [z]))).trans (hk b ob (fun z => hb (by simp [z])) (fun z => hb (by simp [z])) q)) hf (Nat.le_refl _) new
    refine ⟨.ref s.heap.objs.size, _, I1, rfl, ⟨_, x, rfl, I.hok.fresh (Nat.le_refl _), rfl, fun ys hy => by rw [Inv.sqK_inj I hy hq]; exact hx⟩, ⟨⟨x', ?_⟩, IsIt.at hit'.1 fun o q => (sb.2 it (Ne.symm hne)).trans q, hne⟩, fun b hb => ?_⟩
    · have e1 : k0 + ((i + 1 : Nat) : Int) = k0 + (i : Int) + 1 := by omega
      rw [e1]; exact he'
    · have hb' : b < s.heap.objs.size := by
        have e' : b = e ∨ b = it := by simpa using hb
        rcases e' with z | z
        · rw [z]; exact hel
        · rw [z]; exact hil
      rw [upd_ne (Nat.ne_of_lt hb')]
      exact (hf b hb).1
  done := by
    intro X hP hw hK hc i pins s σ H E I hf st hg
    subst hP hw hK
    obtain ⟨⟨old, he⟩, hit, hne⟩ := st
    obtain ⟨xs, hq, hx⟩ := hg
    obtain ⟨its, rv, p⟩ := Inv.sqK I hq
    obtain ⟨f0, f1, f2, f3, f4, f5⟩ := hf it (by simp)
    have hl := rv.length
    obtain ⟨oi, hoi, hdi⟩ := hit.cls
    obtain ⟨oa, na, hoa, hda⟩ := p.cls
    have hai : a ≠ it := fun z => by
      rw [z, hoi] at hoa
      cases hoa
      rw [hda] at hdi; cases hdi
    have ez : i = its.toArray.size := by simp; omega
    rw [ez] at hit
    exact wpAny_pyNext_enum_endD (drawsK (A := X.A.in1) (prog := X.prog) (w := X.w) (show X.A.in1.handled = none from I.ok.hd hc) k it a hai its.toArray) he ⟨hit, p⟩ fun h' eb => ⟨rfl, I.turned (t' := s.toks) (fun b o hb q => eb b o hb q) f0 f1 f3 f4 f5⟩
  self := fun A i s Q E st h => let ⟨⟨_, he⟩, _⟩ := st; wpAny_pyIter_enum he h

set_option maxHeartbeats 1000000 in
theorem meets_enumerate_newB1 {v : Value} {o : Obj} {H : Heap → Prop} (B : Begins v o H) :
    Meets (Builtin.«enumerate.__new__» ⟨[.type "enumerate", v], []⟩) (fun _ R s => H s.heap ∧
      R (.ok (.ret (.ref (s.heap.push o).objs.size))) { s with heap := (s.heap.push o).push { cls := .type "enumerate", data := .fields #[.none, .bool false, .ref s.heap.objs.size, rawInt 0, .none, .none] } }) :=
  .of_wp fun prog w A R s h => by
    obtain ⟨hp, g, d, tk, os⟩ := s; obtain ⟨h1, h⟩ := h
    have hsub := sub_enumerate
    have q1 : ∀ {A' : Around} {E : Value → Shared → Prop} {Q : Value → Shared → Prop}, Q (.ref hp.objs.size) ⟨hp.push o, g, d, tk, os⟩ → wpAny (model prog w) A' (pyIter v) Q E ⟨hp, g, d, tk, os⟩ :=
      fun q => B.iter prog w _ _ ⟨hp, g, d, tk, os⟩ _ h1 q
    wp_walk using q1
    refine wpAny_stack_any fun st => wpAny_pure ?_
    split
    · rename_i c _ _ _ _ _
      cases (c == Value.type "enumerate")
      · wp_walk using q1
        exact ⟨_, rfl, h⟩
      · wp_walk using q1
        exact ⟨_, rfl, h⟩
    · wp_walk using q1
      exact ⟨_, rfl, h⟩
section
variable {prog : Program} {w : World} {A : Around} {E : Value → Shared → Prop} {s : Shared}
theorem enum_begins1 {v : Value} {o : Obj} {H : Heap → Prop} {Q : Value → Shared → Prop} (B : Begins v o H) (h1 : H s.heap)
    (h : ∀ h', IsEnum h' (s.heap.objs.size + 1) s.heap.objs.size 0 .none → h'.get? s.heap.objs.size = some o → h'.objs.size = s.heap.objs.size + 2 →
      (∀ b o, s.heap.get? b = some o → h'.get? b = some o) → Q (.ref (s.heap.objs.size + 1)) { s with heap := h' }) :
    wpAny (model prog w) A (call (.type "enumerate") [v]) Q E s := by
  refine callType_new F.called_enumerate (by decide) (F.typeCall_enumerate_1 _) (F.newCall_enumerate_1 _) (fun obj => F.args_object_init_2 obj _) F.entry_enumerate_new
    (meets_enumerate_newB1 B) ⟨h1, ?_⟩
  have hz : (s.heap.push o).objs.size = s.heap.objs.size + 1 := Heap.size_push ..
  show _ ∧ _
  rw [hz]
  have he : IsEnum ((s.heap.push o).push { cls := .type "enumerate", data := .fields #[.none, .bool false, .ref s.heap.objs.size, rawInt 0, .none, .none] }) (s.heap.objs.size + 1) s.heap.objs.size 0 .none := by
    have := Heap.get?_push_size (s.heap.push o) (o := { cls := .type "enumerate", data := .fields #[.none, .bool false, .ref s.heap.objs.size, rawInt 0, .none, .none] }) rfl
    rw [hz] at this; exact this
  refine ⟨⟨_, he, rfl⟩, h _ he (Heap.get?_push_of_some _ (Heap.get?_push_size _ B.free)) (by rw [Heap.size_push, hz]) fun b o x => Heap.get?_push_of_some _ (Heap.get?_push_of_some _ x)⟩
end
def iEnumK (K : PySem.W.Frag) (ta : TA) : TI := fun σ H R => ta σ H fun vs H1 => ∃ k a xs, vs = [.ref a] ∧ SqK K k H1 a xs ∧ R (Itek K k 0 a) H1
theorem pi_enumK {X : Cx} {e : Expr} {ta : TA} {p pos tpos : Pos} {elts : List Expr} {kk : Nat} (hg : Gl X "enumerate") (hm : X.mg "enumerate" = none) (ha : PA X [e] ta) (hs : starEach [e] X.env = [(false, eval e X.env)]) :
    PI X (.Tuple elts kk tpos) (.Call (.Name "enumerate" p) [e] [] pos) (iEnumK X.K ta) := by
  refine ⟨fun pins s σ H R I h => ?_⟩
  refine Call_ (ld_blt I hg hm boot_enumerate (PyProof.Rows.callWith_type1 (thn (ha.run pos pins s σ H _ I h) fun us s1 ⟨vs, H1, I1, r1, q1⟩ => ?_) hs rfl))
  obtain ⟨k, a, xs, ex, hq, q⟩ := q1
  subst ex
  cases r1 with
  | cons r rr =>
    cases rr
    cases r
    obtain ⟨its, rv, p'⟩ := Inv.sqK I1 hq
    refine enum_begins1 (beginsK k a its.toArray) p' fun h' he hit hsz hk => wpAny_pyIter_enum he ?_
    have I2 : Inv X pins σ H1 { s1 with heap := h' } := I1.kept (t' := s1.toks) hk
    refine ⟨s1.heap.objs.size + 1, [s1.heap.objs.size + 1, s1.heap.objs.size], _, _, H1, rfl, I2, turn_enumK k 0 a (s1.heap.objs.size + 1) s1.heap.objs.size, ⟨⟨.none, he⟩, IsIt.new hit, Nat.succ_ne_self _⟩, fun b hb => ?_, q⟩
    have e' : b = s1.heap.objs.size + 1 ∨ b = s1.heap.objs.size := by simpa using hb
    have hle : s1.heap.objs.size ≤ b := by
      rcases e' with z | z
      · rw [z]; exact Nat.le_add_right _ _
      · rw [z]; exact Nat.le_refl _
    exact I1.fpOk hle (I1.hok.fresh hle)
/-! by data -/
def enumD (k0 : Int) (xs : List D) : List D := xs.mapIdx fun i x => D.tup [.int (k0 + (i : Nat)), x]
theorem enumD_length {k0 : Int} {xs : List D} : (enumD k0 xs).length = xs.length := List.length_mapIdx
theorem enumD_get {k0 : Int} {xs : List D} {i : Nat} {x : D} (h : xs[i]? = some x) : (enumD k0 xs)[i]? = some (.tup [.int (k0 + (i : Nat)), x]) := by
  unfold enumD
  rw [List.getElem?_mapIdx, h]; rfl
/-- a sequence by data: a list with its check, a tuple -/
def sqD (x : D) (S : Sto) (P : List D → (Sto → Prop) → Prop) : Prop := match x with
  | .tup ds => P ds (fun _ => True)
  | .ref a => ∃ ds, LA S a ds ∧ P ds (fun S' => LA S' a ds)
  | _ => False
/-- how it stands -/
structure SqO (K : PySem.W.Frag) (mg : Str → Option Value) (k : Bool) (a : Addr) (ds : List D) (chk : Sto → Prop) (S1 : Sto) (H1 : Hp) : Prop where
  sq : ∀ S H, Tr S1 H1 S H → StO K mg S H → chk S → ∃ xs, SqK K k H a xs ∧ RpL K mg H ds xs
  now : chk S1
theorem sqD_of {K : PySem.W.Frag} {mg : Str → Option Value} {S1 : Sto} {H1 : Hp} {x : D} {v : V} {P : List D → (Sto → Prop) → Prop} (s1 : StO K mg S1 H1) (r : Rp K mg H1 x v) (h : sqD x S1 P) :
    ∃ k a ds chk, v = .ref a ∧ SqO K mg k a ds chk S1 H1 ∧ P ds chk := by
  cases r with
  | ref a =>
    obtain ⟨ds, l, h⟩ := h
    exact ⟨false, a, ds, _, rfl, ⟨fun S H t s l => s.sqL l, l⟩, h⟩
  | tup sq rl => exact ⟨true, _, _, _, rfl, ⟨fun S H t s _ => ⟨_, (t.sqT s1 _ _ sq).sq, t.rpL s1 rl⟩, trivial⟩, h⟩
  | non => exact h.elim
  | bl _ => exact h.elim
  | int _ => exact h.elim
  | str _ => exact h.elim
  | fn _ => exact h.elim
  | ty _ => exact h.elim
  | lw _ _ => exact h.elim
theorem iok_enum {K : PySem.W.Frag} {mg : Str → Option Value} {k : Bool} {a : Addr} {ds : List D} {chk : Sto → Prop} {S1 : Sto} {H1 : Hp} {k0 : Int} (o : SqO K mg k a ds chk S1 H1) : IOk K mg (Itek K k k0 a) (enumD k0 ds) chk S1 H1 where
  go := fun i S H t s l hi => by
    rw [enumD_length] at hi
    obtain ⟨xs, sq, rl⟩ := o.sq S H t s l
    exact ⟨xs, xs[i]'(by rw [← rl.length]; exact hi), sq, List.getElem?_eq_getElem _⟩
  stop := fun S H t s l => by
    obtain ⟨xs, sq, rl⟩ := o.sq S H t s l
    exact ⟨xs, sq, by rw [enumD_length, rl.length]⟩
  yld := fun i S H v H' t s l hi ⟨T, x, ev, nT, eH, f⟩ => by
    subst ev eH
    obtain ⟨xs, sq, rl⟩ := o.sq S H t s l
    obtain ⟨d, h1, r1⟩ := rl.get' (f xs sq)
    have tl := Tr.laidH (S := S) (o := .tup [.int (k0 + (i : Nat)), x]) nT
    exact ⟨_, enumD_get h1, tl, s.laidH nT, .tup (.inl upd_same) (.cons (.int _) (.cons (tl.rp s r1) .nil))⟩
section
variable {X : Cx} {Z : Zb} {tg e : Expr} {ta : DA} {p pos : Pos}
def iEnm (ta : DA) : DI := fun ρ S P => ta ρ S fun ds S1 => match ds with
  | [x] => sqD x S1 fun its chk => P (enumD 0 its) chk S1
  | _ => False
theorem si_enum {elts : List Expr} {kk : Nat} {tpos : Pos} (hg : Gl X "enumerate") (hm : X.mg "enumerate" = none) (ha : SA X Z [e] ta) (hs : starEach [e] X.env = [(false, eval e X.env)]) :
    SI X Z (.Tuple elts kk tpos) (.Call (.Name "enumerate" p) [e] [] pos) (iEnm ta) := by
  refine piI (pi_enumK hg hm ha hs) fun σ H R ⟨ρ, S, P, r, s, z, h, k⟩ => ?_
  refine ⟨ρ, S, _, r, s, z, h, fun x S1 v H1 t1 s1 rx h1 => ?_⟩
  obtain ⟨x, rfl, h1⟩ : ∃ x0, x = [x0] ∧ sqD x0 S1 fun its chk => P (enumD 0 its) chk S1 := by
    split at h1
    · exact ⟨_, rfl, h1⟩
    · exact h1.elim
  obtain ⟨v, rfl, r1⟩ := rx.o1
  obtain ⟨k', a, ds, chk, rfl, so, h1⟩ := sqD_of s1 r1 h1
  obtain ⟨xs, sq, rl⟩ := so.sq S1 H1 (Tr.refl _ _) s1 so.now
  exact ⟨k', a, xs, rfl, sq, k _ _ _ _ _ t1 s1 (iok_enum so) h1⟩
end
end DL

set_option Elab.async false
set_option linter.all false
set_option maxRecDepth 100000
set_option maxHeartbeats 4000000
namespace DL
open PySem PySem.Spec PyProof.Rows L2 RZ
/-! ### many new things at once -/
section
variable {X : Cx} {pins : List (Addr × Obj)} {σ : L2.St} {H H' : Hp} {s : Shared} {h' : Heap} {t' : Nat}
theorem Inv.lay (I : Inv X pins σ H s) (k : ∀ b u, s.heap.get? b = some u → h'.get? b = some u) (old : ∀ b, b < s.heap.objs.size → H' b = H b)
    (new : ∀ b u, s.heap.objs.size ≤ b → H' b = some u → ObjOk X.prog X.w H' h' b u) : Inv X pins σ H' { s with heap := h', toks := t' } := by
  have lt : ∀ b u, H b = some u → b < s.heap.objs.size := fun b u e => (I.hok b u e).lt
  have up : ∀ b u, H b = some u → H' b = some u := fun b u e => (old b (lt b u e)).trans e
  refine I.un ⟨fun b u q _ _ _ => k b u q, fun b u q _ _ _ => ⟨u.slots, k b u q⟩, fun b u q n _ => ?_, fun b u q _ => ⟨u, k b u q⟩, fun b xs q => up b _ q, fun b u xs q => up b _ q, fun b ps q => ⟨#[], by rw [up b _ q]; simp⟩⟩ fun b u e => ?_
  · rw [old b (Heap.lt_size q)]; exact n
  · by_cases hb : b < s.heap.objs.size
    · rw [old b hb] at e
      exact (I.hok b u e).stay (fun c v _ q => k c v q) (fun c q => up c _ q) fun c xs q => up c _ q
    · exact new b u (Nat.le_of_not_lt hb) e
end
/-! ### zip of two, lists and tuples in any mix -/
def Itzk (K : PySem.W.Frag) (k1 k2 : Bool) (a b : Addr) : It :=
  ⟨fun i H => ∃ (xs ys : List V) (x y : V), SqK K k1 H a xs ∧ SqK K k2 H b ys ∧ xs[i]? = some x ∧ ys[i]? = some y,
    fun i H v H' => ∃ T x y, v = .ref T ∧ H T = none ∧ H' = upd H T (.tup [x, y]) ∧ (∀ xs, SqK K k1 H a xs → xs[i]? = some x) ∧ ∀ ys, SqK K k2 H b ys → ys[i]? = some y,
    fun i H => ∃ xs ys : List V, SqK K k1 H a xs ∧ SqK K k2 H b ys ∧ i ≤ xs.length ∧ i ≤ ys.length ∧ (i = xs.length ∨ i = ys.length)⟩
theorem ItSq.ne {h : Heap} {k k2 : Bool} {a a2 it : Addr} {i : Nat} {its : Array Value} (q : IsIt h k it a2 i) (p : IsSq h k2 a its) : a ≠ it := fun z => by
  obtain ⟨oi, hoi, hdi⟩ := q.cls
  obtain ⟨oa, na, hoa, hda⟩ := p.cls
  rw [z, hoi] at hoa
  cases hoa
  rw [hda] at hdi; cases hdi
theorem turn_zipK {P : Program} {w : World} {K : PySem.W.Frag} {elts : List Expr} {kk : Nat} {tpos : Pos} (k1 k2 : Bool) {a b z TI TO i1 i2 : Addr} (D : ZipSep2 z TI TO i1 i2 [i1, a] [i2, b]) :
    Turn P w K (.Tuple elts kk tpos) (Itzk K k1 k2 a b) [z, TI, TO, i1, i2] z (fun i h => IsZip h z TI TO .none ∧ IsTupOf2 h TI (.ref i1) (.ref i2) ∧ (∃ x y, IsTupOf2 h TO x y) ∧ IsIt h k1 i1 a i ∧ IsIt h k2 i2 b i) where
  mem := by simp
  obj := fun i h st c hc => by
    obtain ⟨hz, hTI, ⟨x, y, hTO⟩, h1, h2⟩ := st
    obtain ⟨o1, e1, d1⟩ := h1.cls
    obtain ⟨o2, e2, d2⟩ := h2.cls
    have e' : c = z ∨ c = TI ∨ c = TO ∨ c = i1 ∨ c = i2 := by simpa using hc
    rcases e' with q | q | q | q | q
    · rw [q]; exact ⟨_, hz, fun v q => nomatch q⟩
    · rw [q]; exact ⟨_, hTI, fun v q => nomatch q⟩
    · rw [q]; exact ⟨_, hTO, fun v q => nomatch q⟩
    · rw [q]; exact ⟨o1, e1, fun v q => by rw [d1] at q; cases q⟩
    · rw [q]; exact ⟨o2, e2, fun v q => by rw [d2] at q; cases q⟩
  keep := fun i h h' st k => by
    obtain ⟨hz, hTI, ⟨x, y, hTO⟩, h1, h2⟩ := st
    exact ⟨k z (by simp) _ hz, k TI (by simp) _ hTI, ⟨x, y, k TO (by simp) _ hTO⟩, h1.at fun o q => k i1 (by simp) o q, h2.at fun o q => k i2 (by simp) o q⟩
  item := by
    intro X hP hw hK hc i pins s σ H E I hf st hg
    subst hP hw hK
    obtain ⟨hz, hTI, ⟨x0, y0, hTO⟩, h1, h2⟩ := st
    obtain ⟨xs, ys, x, y, hqx, hqy, hx, hy⟩ := hg
    obtain ⟨its, rv, p⟩ := Inv.sqK I hqx
    obtain ⟨its2, rv2, p2⟩ := Inv.sqK I hqy
    obtain ⟨u, hu, ru⟩ := rv.get hx
    obtain ⟨u2, hu2, ru2⟩ := rv2.get hy
    have hzl : z < s.heap.objs.size := Heap.lt_size hz
    have hh : X.A.in1.handled = none := I.ok.hd hc
    have l1 : i < its.toArray.size := by simpa using (List.getElem?_eq_some_iff.mp hu).1
    have l2 : i < its2.toArray.size := by simpa using (List.getElem?_eq_some_iff.mp hu2).1
    refine wpAny_pyNext_zipD2_item D (drawsK (A := X.A.in1) (prog := X.prog) (w := X.w) hh k1 i1 a (ItSq.ne h1 p) its.toArray) (drawsK (A := X.A.in1) (prog := X.prog) (w := X.w) hh k2 i2 b (ItSq.ne h2 p2) its2.toArray) hz hTI hTO ⟨h1, p⟩ ⟨h2, p2⟩ l1 l2
      fun w1 w2 h' tk hw1 hw2 z' TO' h1' h2' hT hsz hk => ?_
    have e1 : w1 = u := by
      have hx2 : its[i]? = some w1 := by simpa using hw1
      rw [hu] at hx2; exact (Option.some.inj hx2).symm
    have e2 : w2 = u2 := by
      have hx2 : its2[i]? = some w2 := by simpa using hw2
      rw [hu2] at hx2; exact (Option.some.inj hx2).symm
    subst e1 e2
    refine ⟨_, rfl, wpAny_letOwnedTupleGo_zip (s := { s with heap := h', toks := tk }) z' fun h'' z'' sb => ?_⟩
    have hT2 : h''.get? s.heap.objs.size = some { cls := .type "tuple", data := .seq #[w1, w2] } := (sb.2 _ (Nat.ne_of_gt hzl)).trans hT
    have new : ObjOk X.prog X.w (upd H s.heap.objs.size (.tup [x, y])) h'' s.heap.objs.size (.tup [x, y]) :=
      ⟨by show 2 ≤ sizeLine; decide, [w1, w2], .cons ru (.cons ru2 .nil), ⟨_, hT2, rfl, _, rfl⟩⟩
    have I1 : Inv X pins σ (upd H s.heap.objs.size (.tup [x, y])) { s with heap := h'', toks := tk } :=
      I.turnedNew (t' := tk) (ch := [z, TI, TO, i1, i2]) (fun c o hb q => (sb.2 c (fun q' => hb (by simp [q']))).trans (hk c o (fun q' => hb (by simp [q'])) (fun q' => hb (by simp [q'])) (fun q' => hb (by simp [q'])) (fun q' => hb (by simp [q'])) q)) hf (Nat.le_refl _) new
    have ni1 : i1 ≠ z := fun q => D.zf1 (by simp [q])
    have ni2 : i2 ≠ z := fun q => D.zf2 (by simp [q])
    refine ⟨.ref s.heap.objs.size, _, I1, rfl, ⟨_, x, y, rfl, I.hok.fresh (Nat.le_refl _), rfl, fun l hl => by rw [Inv.sqK_inj I hl hqx]; exact hx, fun l hl => by rw [Inv.sqK_inj I hl hqy]; exact hy⟩, ⟨z'', ?_, ⟨w1, w2, ?_⟩, ?_, ?_⟩, fun c hcm => ?_⟩
    · exact (sb.2 _ D.TIz).trans (hk _ _ D.TIz D.TITO D.TIi1 D.TIi2 hTI)
    · exact (sb.2 _ D.TOz).trans TO'
    · exact h1'.1.at fun o q => (sb.2 _ ni1).trans q
    · exact h2'.1.at fun o q => (sb.2 _ ni2).trans q
    · have hlt : c < s.heap.objs.size := by
        have e' : c = z ∨ c = TI ∨ c = TO ∨ c = i1 ∨ c = i2 := by simpa using hcm
        rcases e' with q | q | q | q | q
        · rw [q]; exact hzl
        · rw [q]; exact Heap.lt_size hTI
        · rw [q]; exact Heap.lt_size hTO
        · rw [q]; obtain ⟨_, e1, _⟩ := h1.cls; exact Heap.lt_size e1
        · rw [q]; obtain ⟨_, e2, _⟩ := h2.cls; exact Heap.lt_size e2
      rw [upd_ne (Nat.ne_of_lt hlt)]
      exact (hf c hcm).1
  done := by
    intro X hP hw hK hc i pins s σ H E I hf st hg
    subst hP hw hK
    obtain ⟨hz, hTI, ⟨x0, y0, hTO⟩, h1, h2⟩ := st
    obtain ⟨xs, ys, hqx, hqy, hle1, hle2, hend⟩ := hg
    obtain ⟨its, rv, p⟩ := Inv.sqK I hqx
    obtain ⟨its2, rv2, p2⟩ := Inv.sqK I hqy
    have l1 := rv.length
    have l2 := rv2.length
    have hh : X.A.in1.handled = none := I.ok.hd hc
    refine wpAny_pyNext_zipD2_end D (drawsK (A := X.A.in1) (prog := X.prog) (w := X.w) hh k1 i1 a (ItSq.ne h1 p) its.toArray) (drawsK (A := X.A.in1) (prog := X.prog) (w := X.w) hh k2 i2 b (ItSq.ne h2 p2) its2.toArray) hz hTI hTO ⟨h1, p⟩ ⟨h2, p2⟩ (by simp; omega) (by simp; omega) (by simp; omega)
      fun h' tk hk => ⟨rfl, I.turnedL (t' := tk) (ch := [z, TI, TO, i1, i2]) (fun c o hb q =>
        hk c o (fun q' => hb (by simp [q'])) (fun q' => hb (by simp [q'])) (fun q' => hb (by simp [q'])) (fun q' => hb (by simp [q'])) q) hf⟩
  self := fun A i s Q E st h => wpAny_pyIter_zip st.1 h
def iZipK (K : PySem.W.Frag) (ta : TA) : TI := fun σ H R => ta σ H fun vs H1 => ∃ k1 k2 a b xs ys, vs = [.ref a, .ref b] ∧ SqK K k1 H1 a xs ∧ SqK K k2 H1 b ys ∧ R (Itzk K k1 k2 a b) H1
theorem pi_zipK {X : Cx} {e e2 : Expr} {ta : TA} {p pos tpos : Pos} {elts : List Expr} {kk : Nat} (hg : Gl X "zip") (hm : X.mg "zip" = none) (ha : PA X [e, e2] ta)
    (hs : starEach [e, e2] X.env = (false, eval e X.env) :: starEach [e2] X.env) (hpl : (backTo pos (starEach [e2] X.env)).any (·.1) = false) :
    PI X (.Tuple elts kk tpos) (.Call (.Name "zip" p) [e, e2] [] pos) (iZipK X.K ta) := by
  refine ⟨fun pins s σ H R I h => ?_⟩
  refine Call_ (ld_blt I hg hm PyProof.Rows.boot_zip (PyProof.Rows.callWith_type1 (thn (ha.run pos pins s σ H _ I h) fun us s1 ⟨vs, H1, I1, r1, q1⟩ => ?_) hs hpl))
  obtain ⟨k1, k2, a, b, xs, ys, ex, hqx, hqy, q⟩ := q1
  subst ex
  cases r1 with
  | cons r rr =>
    cases rr with
    | cons r' rr =>
      cases rr
      cases r
      cases r'
      obtain ⟨its, rv, p1⟩ := Inv.sqK I1 hqx
      obtain ⟨its2, rv2, p2⟩ := Inv.sqK I1 hqy
      refine zip_begins2 (beginsK k1 a its.toArray) (beginsK k2 b its2.toArray) p1 p2 fun h' hz hTI hTO h1 h2 hsz hk => wpAny_pyIter_zip hz ?_
      have I2 : Inv X pins σ H1 { s1 with heap := h' } := I1.kept (t' := s1.toks) hk
      refine ⟨s1.heap.objs.size + 4, [s1.heap.objs.size + 4, s1.heap.objs.size + 2, s1.heap.objs.size + 3, s1.heap.objs.size, s1.heap.objs.size + 1], _, _, H1, rfl, I2,
        turn_zipK k1 k2 (zip_sep2 (fp1 := [a]) (fp2 := [b]) (fun c hc => by rw [List.mem_singleton.mp hc]; exact p1.lt) (fun c hc => by rw [List.mem_singleton.mp hc]; exact p2.lt)), ⟨hz, hTI, ⟨_, _, hTO⟩, IsIt.new h1, IsIt.new h2⟩, fun c hcm => ?_, q⟩
      have e' : c = s1.heap.objs.size + 4 ∨ c = s1.heap.objs.size + 2 ∨ c = s1.heap.objs.size + 3 ∨ c = s1.heap.objs.size ∨ c = s1.heap.objs.size + 1 := by simpa using hcm
      have hle : s1.heap.objs.size ≤ c := by
        rcases e' with z | z | z | z | z
        · rw [z]; exact Nat.le_add_right _ _
        · rw [z]; exact Nat.le_add_right _ _
        · rw [z]; exact Nat.le_add_right _ _
        · rw [z]; exact Nat.le_refl _
        · rw [z]; exact Nat.le_add_right _ _
      exact I1.fpOk hle (I1.hok.fresh hle)
theorem iok_zipK {K : PySem.W.Frag} {mg : Str → Option Value} {k1 k2 : Bool} {a b : Addr} {ds es : List D} {c1 c2 : Sto → Prop} {S1 : Sto} {H1 : Hp} (o1 : SqO K mg k1 a ds c1 S1 H1) (o2 : SqO K mg k2 b es c2 S1 H1) :
    IOk K mg (Itzk K k1 k2 a b) (zipD ds es) (fun S' => c1 S' ∧ c2 S') S1 H1 where
  go := fun i S H t s l hi => by
    rw [zipD_length] at hi
    obtain ⟨us, sa, ra⟩ := o1.sq S H t s l.1
    obtain ⟨vs, sb, rb⟩ := o2.sq S H t s l.2
    exact ⟨us, vs, us[i]'(by rw [← ra.length]; omega), vs[i]'(by rw [← rb.length]; omega), sa, sb, List.getElem?_eq_getElem _, List.getElem?_eq_getElem _⟩
  stop := fun S H t s l => by
    obtain ⟨us, sa, ra⟩ := o1.sq S H t s l.1
    obtain ⟨vs, sb, rb⟩ := o2.sq S H t s l.2
    have h1 := ra.length
    have h2 := rb.length
    exact ⟨us, vs, sa, sb, by rw [zipD_length]; omega, by rw [zipD_length]; omega, by rw [zipD_length]; omega⟩
  yld := fun i S H v H' t s l hi ⟨T, x, y, ev, nT, eH, f1, f2⟩ => by
    subst ev eH
    obtain ⟨us, sa, ra⟩ := o1.sq S H t s l.1
    obtain ⟨vs, sb, rb⟩ := o2.sq S H t s l.2
    obtain ⟨d1, h1, r1⟩ := ra.get' (f1 us sa)
    obtain ⟨d2, h2, r2⟩ := rb.get' (f2 vs sb)
    have tl := Tr.laidH (S := S) (o := .tup [x, y]) nT
    exact ⟨_, zipD_get h1 h2, tl, s.laidH nT, .tup (.inl upd_same) (.cons (tl.rp s r1) (.cons (tl.rp s r2) .nil))⟩
section
variable {X : Cx} {Z : Zb} {a b : Expr} {ta : DA} {p p2 pos pos2 : Pos}
def dZ2 (ta : DA) : Nv → Sto → (List D → List D → (Sto → Prop) → Sto → Prop) → Prop := fun ρ S P => ta ρ S fun ds S1 => match ds with
  | [x, y] => sqD x S1 fun xs c1 => sqD y S1 fun ys c2 => P xs ys (fun S' => c1 S' ∧ c2 S') S1
  | _ => False
theorem dZ2_inv {ds : List D} {S1 : Sto} {P : List D → List D → (Sto → Prop) → Sto → Prop} (h : match ds with | [x, y] => sqD x S1 fun xs c1 => sqD y S1 fun ys c2 => P xs ys (fun S' => c1 S' ∧ c2 S') S1 | _ => False) :
    ∃ x y, ds = [x, y] ∧ sqD x S1 fun xs c1 => sqD y S1 fun ys c2 => P xs ys (fun S' => c1 S' ∧ c2 S') S1 := by
  split at h
  · exact ⟨_, _, rfl, h⟩
  · exact h.elim
def iZip (ta : DA) : DI := fun ρ S P => dZ2 ta ρ S fun xs ys chk S1 => P (zipD xs ys) chk S1
theorem si_zip2 {elts : List Expr} {kk : Nat} {tpos : Pos} (hg : Gl X "zip") (hm : X.mg "zip" = none) (ha : SA X Z [a, b] ta)
    (hs : starEach [a, b] X.env = (false, eval a X.env) :: starEach [b] X.env) (hpl : (backTo pos (starEach [b] X.env)).any (·.1) = false) : SI X Z (.Tuple elts kk tpos) (.Call (.Name "zip" p) [a, b] [] pos) (iZip ta) := by
  refine piI (pi_zipK hg hm ha hs hpl) fun σ H R ⟨ρ, S, P, r, s, z, h, k⟩ => ?_
  refine ⟨ρ, S, _, r, s, z, h, fun x S1 v H1 t1 s1 rx h1 => ?_⟩
  obtain ⟨x, y, rfl, h1⟩ := dZ2_inv h1
  obtain ⟨v1, v2, rfl, r1, r2⟩ := rx.o2
  obtain ⟨k1, a, ds, c1, rfl, o1, h1⟩ := sqD_of s1 r1 h1
  obtain ⟨k2, b, es, c2, rfl, o2, h1⟩ := sqD_of s1 r2 h1
  obtain ⟨xs, sq, rl⟩ := o1.sq S1 H1 (Tr.refl _ _) s1 o1.now
  obtain ⟨ys, sq2, rl2⟩ := o2.sq S1 H1 (Tr.refl _ _) s1 o2.now
  exact ⟨k1, k2, a, b, xs, ys, rfl, sq, sq2, k _ _ _ _ _ t1 s1 (iok_zipK o1 o2) h1⟩
/-! ### list(zip(a, b)) -/
/-- the heap behind it -/
def zipH (H : Hp) (Sx : Addr) (as : List Addr) (xs ys : List V) : Hp := fun b => if b = Sx then some (.lst (as.map V.ref)) else match as.idxOf? b with
  | some j => some (.tup [xs.getD j .non, ys.getD j .non])
  | none => H b
def tLzip (K : PySem.W.Frag) (ta : TA) : TE := fun σ H Q => ta σ H fun vs H1 => ∃ k1 k2 a b xs ys, vs = [.ref a, .ref b] ∧ SqK K k1 H1 a xs ∧ SqK K k2 H1 b ys ∧
  ∀ (Sx : Addr) (as : List Addr) (lo : Addr), as.length = min xs.length ys.length → as.Nodup → (∀ c ∈ as, lo < c) → Sx ≤ lo → (∀ c, Sx ≤ c → H1 c = none) → Q (.ref Sx) (zipH H1 Sx as xs ys)
theorem idxOf?_get {as : List Addr} {b : Addr} {j : Nat} (h : as.idxOf? b = some j) : as[j]? = some b := by
  have := List.of_findIdx?_eq_some h
  split at this
  · rename_i a e
    rw [e]
    simp at this
    rw [this]
  · cases this
theorem idxOf?_of {as : List Addr} {b : Addr} {j : Nat} (nd : as.Nodup) (h : as[j]? = some b) : as.idxOf? b = some j := by
  cases e : as.idxOf? b with
  | none =>
    have hm : b ∈ as := List.mem_of_getElem? h
    have := List.findIdx?_eq_none_iff.mp e b hm
    simp at this
  | some i =>
    have hi := idxOf?_get e
    obtain ⟨l1, e1⟩ := List.getElem?_eq_some_iff.mp hi
    obtain ⟨l2, e2⟩ := List.getElem?_eq_some_iff.mp h
    exact congrArg some ((List.getElem_inj nd).mp (e1.trans e2.symm))
theorem vals_refs : ∀ as : List Addr, Vals (as.map V.ref) (as.map Value.ref)
  | [] => .nil
  | _ :: r => .cons rfl (vals_refs r)
theorem vals_get' : ∀ {xs : List V} {us : List Value} {i : Nat} {u : Value}, Vals xs us → us[i]? = some u → ∃ x, xs[i]? = some x ∧ RelV x u
  | _, _, i, _, .nil, e => by simp at e
  | _, _, 0, _, .cons r _, e => by simp at e; subst e; exact ⟨_, rfl, r⟩
  | _, _, i + 1, u, .cons _ t, e => by
    obtain ⟨x, h1, h2⟩ := vals_get' (i := i) (u := u) t (by simpa using e)
    exact ⟨x, by simpa using h1, h2⟩
theorem pe_lzip {e e2 : Expr} {ta : TA} (hl : Gl X "list") (hlm : X.mg "list" = none) (hc : X.calm = true) (hg : Gl X "zip") (hm : X.mg "zip" = none) (ha : PA X [e, e2] ta)
    (hs : starEach [e, e2] X.env = (false, eval e X.env) :: starEach [e2] X.env) (hpl : (backTo pos2 (starEach [e2] X.env)).any (·.1) = false)
    (hs1 : starEach [.Call (.Name "zip" p2) [e, e2] [] pos2] X.env = (false, eval (.Call (.Name "zip" p2) [e, e2] [] pos2) X.env) :: starEach [] X.env) :
    PE X (.Call (.Name "list" p) [.Call (.Name "zip" p2) [e, e2] [] pos2] [] pos) (tLzip X.K ta) := by
  refine ⟨fun pins s σ H Q I h => ?_⟩
  refine Call_ (ld_blt I hl hlm boot_list (PyProof.Rows.callWith_type1 ?_ hs1 rfl))
  rw [hs1]
  refine Calls.spliced_cons ?_
  refine Call_ (ld_blt I hg hm PyProof.Rows.boot_zip (PyProof.Rows.callWith_type1 (thn (ha.run pos2 pins s σ H _ I h) fun us s1 ⟨vs, H1, I1, r1, q1⟩ => ?_) hs hpl))
  obtain ⟨k1, k2, a, b, xs, ys, ex, hqx, hqy, q⟩ := q1
  subst ex
  cases r1 with
  | cons r rr =>
    cases rr with
    | cons r' rr =>
      cases rr
      cases r
      cases r'
      obtain ⟨its, rv, p1⟩ := Inv.sqK I1 hqx
      obtain ⟨its2, rv2, p2⟩ := Inv.sqK I1 hqy
      refine zip_begins2 (beginsK k1 a its.toArray) (beginsK k2 b its2.toArray) p1 p2 fun h' hz hTI hTO h1 h2 hsz hk => ?_
      show wpAny _ _ (spliced []) _ _ _
      refine Calls.spliced_nil ?_
      show wpAny _ _ (call (.type "list") [.ref (s1.heap.objs.size + 4)]) _ _ _
      obtain ⟨N, hN⟩ : ∃ N : Nat, N = s1.heap.objs.size := ⟨_, rfl⟩
      rw [← hN] at hz hTI hTO h1 h2 hsz ⊢
      have la : @LT.lt Nat _ a N := by rw [hN]; exact p1.lt
      have lb : @LT.lt Nat _ b N := by rw [hN]; exact p2.lt
      have sep := zip_sep2 (N := N) (fp1 := [a]) (fp2 := [b]) (fun c hc => by rw [List.mem_singleton.mp hc]; exact la) (fun c hc => by rw [List.mem_singleton.mp hc]; exact lb)
      have l1 := rv.length
      have l2 := rv2.length
      have hh : X.A.in1.in1.in1.handled = none := I.ok.hd hc
      have hz1 : xs.length ≤ sizeLine := by
        cases k1
        · exact (I1.list hqx).choose_spec.2.2
        · exact (I1.tuple hqx).choose_spec.2.2
      have q1 : IsSq h' k1 a its.toArray := p1.at fun o e => hk _ _ e
      have q2 : IsSq h' k2 b its2.toArray := p2.at fun o e => hk _ _ e
      refine zl_call (A := X.A) (s := { s1 with heap := h' }) (P1 := fun i v => its.toArray[i]? = some v) (P2 := fun i v => its2.toArray[i]? = some v) (I.ok.hd hc) sep (drawsK (A := X.A.in1.in1.in1) (prog := X.prog) (w := X.w) hh k1 N a (ItSq.ne (IsIt.new h1) q1) its.toArray) (drawsK (A := X.A.in1.in1.in1) (prog := X.prog) (w := X.w) hh k2 (N + 1) b (ItSq.ne (IsIt.new h2) q2) its2.toArray)
        ⟨hz, hTI, hTO, ⟨IsIt.new h1, q1⟩, ⟨IsIt.new h2, q2⟩⟩ ?_ ?_ (by simp; omega) fun h2' tk acc cc as hk2 hS hal hG hacc => ?_
      · show (N + 4 : Nat) < h'.objs.size ∧ (N + 2 : Nat) < h'.objs.size ∧ (N + 3 : Nat) < h'.objs.size ∧ N < h'.objs.size ∧ (N + 1 : Nat) < h'.objs.size
        rw [hsz]
        exact ⟨by omega, by omega, by omega, by omega, by omega⟩
      · show (∀ b_1 ∈ [N, a], b_1 < h'.objs.size) ∧ ∀ b_1 ∈ [N + 1, b], b_1 < h'.objs.size
        rw [hsz]
        refine ⟨fun c hc => ?_, fun c hc => ?_⟩
        · have : c = N ∨ c = a := by simpa using hc
          rcases this with z | z
          · rw [z]; exact (show (N : Nat) < N + 5 by omega)
          · rw [z]; exact Nat.lt_of_lt_of_le la (Nat.le_add_right N 5)
        · have : c = N + 1 ∨ c = b := by simpa using hc
          rcases this with z | z
          · rw [z]; exact (show (N + 1 : Nat) < N + 5 by omega)
          · rw [z]; exact Nat.lt_of_lt_of_le lb (Nat.le_add_right N 5)
      · dsimp only at hk2 hS hG hal ⊢
        rw [hsz] at hS hG ⊢
        have hal' : as.length = min xs.length ys.length := by rw [hal]; simp; omega
        have fr : ∀ c, N ≤ c → H1 c = none := fun c hc => I1.hok.fresh (by rw [← hN]; exact hc)
        have frS : ∀ c, N + 5 ≤ c → H1 c = none := fun c hc => fr c (Nat.le_trans (Nat.le_add_right N 5) hc)
        have kk : ∀ b u, s1.heap.get? b = some u → h2'.get? b = some u := fun c u e => by
          have hc : @LT.lt Nat _ c N := by rw [hN]; exact Heap.lt_size e
          have ne : ∀ k : Nat, c ≠ N + k := fun k z => by
            have z' : @Eq Nat c (N + k) := z
            omega
          exact hk2 c u (ne 4) (ne 3) (ne 0) (ne 1) (hk c u e)
        have I3 : Inv X pins σ (zipH H1 (N + 5) as xs ys) { s1 with heap := h2', toks := tk } := by
          refine Inv.lay I1 kk (fun c hc => ?_) fun c u hc e => ?_
          · rw [← hN] at hc
            unfold zipH
            have hc' : @LT.lt Nat _ c N := hc
            rw [if_neg (fun z => by
              have z' : @Eq Nat c (N + 5) := z
              omega)]
            cases e : as.idxOf? c with
            | none => rfl
            | some j =>
              have := hG.above c (List.mem_of_getElem? (idxOf?_get e))
              have this : @LT.lt Nat _ (N + 5) c := this
              omega
          · by_cases hcS : c = N + 5
            · subst hcS
              unfold zipH at e
              rw [if_pos rfl] at e
              cases e
              refine ⟨?_, acc.toList, cc, ?_, by simpa using hS⟩
              · rw [List.length_map, hal']; omega
              · rw [hacc]; exact vals_refs as
            · have e0 := e
              unfold zipH at e
              rw [if_neg hcS] at e
              rw [← hN] at hc
              cases e2 : as.idxOf? c with
              | none =>
                rw [e2] at e
                rw [fr c hc] at e
                cases e
              | some j =>
                rw [e2] at e
                cases e
                obtain ⟨w1, w2, g1, g2, g3⟩ := hG.pairs j c (idxOf?_get e2)
                have m1 : ∃ x, xs[j]? = some x ∧ RelV x w1 := vals_get' rv (by simpa using g1)
                have m2 : ∃ y, ys[j]? = some y ∧ RelV y w2 := vals_get' rv2 (by simpa using g2)
                obtain ⟨x, hx, rx⟩ := m1
                obtain ⟨y, hy, ry⟩ := m2
                refine ⟨by show 2 ≤ sizeLine; decide, [w1, w2], ?_, ⟨_, g3, rfl, _, rfl⟩⟩
                rw [List.getD_eq_getElem?_getD, hx, List.getD_eq_getElem?_getD, hy]
                exact .cons rx (.cons ry .nil)
        exact ⟨.ref (N + 5), _, I3, rfl, q (N + 5) as (N + 5) hal' hG.nd hG.above (Nat.le_refl _) frS⟩

theorem RpL.of_get {K : PySem.W.Frag} {mg : Str → Option Value} {H : Hp} : ∀ {ds : List D} {vs : List V}, ds.length = vs.length → (∀ (i : Nat) (d : D) (v : V), ds[i]? = some d → vs[i]? = some v → Rp K mg H d v) → RpL K mg H ds vs
  | [], [], _, _ => .nil
  | [], _ :: _, h, _ => by simp at h
  | _ :: _, [], h, _ => by simp at h
  | _ :: ds, _ :: vs, h, k => .cons (k 0 _ _ rfl rfl) (RpL.of_get (by simpa using h) fun i d v e1 e2 => k (i + 1) d v (by simpa using e1) (by simpa using e2))
theorem zipD_get' : ∀ {xs ys : List D} {i : Nat} {d : D}, (zipD xs ys)[i]? = some d → ∃ x y, d = .tup [x, y] ∧ xs[i]? = some x ∧ ys[i]? = some y
  | [], _, _, _, h => by simp [zipD] at h
  | _ :: _, [], _, _, h => by simp [zipD] at h
  | _ :: _, _ :: _, 0, _, h => by simp [zipD] at h; subst h; exact ⟨_, _, rfl, rfl, rfl⟩
  | _ :: xs, _ :: ys, i + 1, d, h => by
    obtain ⟨x, y, e, h1, h2⟩ := zipD_get' (xs := xs) (ys := ys) (i := i) (d := d) (by simpa [zipD] using h)
    exact ⟨x, y, e, by simpa using h1, by simpa using h2⟩
theorem RpL.getD {K : PySem.W.Frag} {mg : Str → Option Value} {H : Hp} {ds : List D} {vs : List V} {i : Nat} {d : D} (r : RpL K mg H ds vs) (h : ds[i]? = some d) : Rp K mg H d (vs.getD i .non) := by
  obtain ⟨v, e, q⟩ := r.get h
  rw [List.getD_eq_getElem?_getD, e]
  exact q
def dLzip (ta : DA) : DE := fun ρ S Q => dZ2 ta ρ S fun xs ys _ S1 => ∀ p, S1 p = none → Q (.ref p) (up1 S1 p (.lst (zipD xs ys)))
theorem s_lzip (hl : Gl X "list") (hlm : X.mg "list" = none) (hc : X.calm = true) (hg : Gl X "zip") (hm : X.mg "zip" = none) (ha : SA X Z [a, b] ta)
    (hs : starEach [a, b] X.env = (false, eval a X.env) :: starEach [b] X.env) (hpl : (backTo pos2 (starEach [b] X.env)).any (·.1) = false)
    (hs1 : starEach [.Call (.Name "zip" p2) [a, b] [] pos2] X.env = (false, eval (.Call (.Name "zip" p2) [a, b] [] pos2) X.env) :: starEach [] X.env) :
    SE X Z (.Call (.Name "list" p) [.Call (.Name "zip" p2) [a, b] [] pos2] [] pos) (dLzip ta) := by
  refine peI (pe_lzip hl hlm hc hg hm ha hs hpl hs1) fun σ H Q ⟨ρ, S, P, r, s, z, h, k⟩ => ?_
  refine ⟨ρ, S, _, r, s, z, h, fun x S1 v H1 t1 s1 rx h1 => ?_⟩
  obtain ⟨x, y, rfl, h1⟩ := dZ2_inv (P := fun xs ys _ S1 => ∀ p, S1 p = none → P (.ref p) (up1 S1 p (.lst (zipD xs ys)))) h1
  obtain ⟨v1, v2, rfl, r1, r2⟩ := rx.o2
  obtain ⟨k1, a, ds, c1, rfl, o1, h1⟩ := sqD_of s1 r1 h1
  obtain ⟨k2, b, es, c2, rfl, o2, h1⟩ := sqD_of s1 r2 h1
  obtain ⟨xs, sq, rl⟩ := o1.sq S1 H1 (Tr.refl _ _) s1 o1.now
  obtain ⟨ys, sq2, rl2⟩ := o2.sq S1 H1 (Tr.refl _ _) s1 o2.now
  refine ⟨k1, k2, a, b, xs, ys, rfl, sq, sq2, fun Sx as lo hal nd hab hlo fr => ?_⟩
  have nas : ∀ c, H1 c ≠ none → c ≠ Sx ∧ as.idxOf? c = none := fun c hc => by
    refine ⟨fun e => hc (by rw [e]; exact fr Sx (Nat.le_refl _)), ?_⟩
    cases e : as.idxOf? c with
    | none => rfl
    | some j => exact absurd (fr c (Nat.le_trans hlo (Nat.le_of_lt (hab c (List.mem_of_getElem? (idxOf?_get e)))))) hc
  have keep : ∀ c o, H1 c = some o → zipH H1 Sx as xs ys c = some o := fun c o e => by
    obtain ⟨n1, n2⟩ := nas c (by rw [e]; exact fun z => nomatch z)
    unfold zipH
    rw [if_neg n1, n2]; exact e
  have nS : H1 Sx = none := fr Sx (Nat.le_refl _)
  have tA : Kp H1 (zipH H1 Sx as xs ys) := ⟨fun c us q => keep c _ q, fun c o us q => keep c _ q⟩
  have tr : Tr S1 H1 (up1 S1 Sx (.lst (zipD ds es))) (zipH H1 Sx as xs ys) := ⟨fun c o e _ => keep c o e, fun c n q => by
    by_cases e : c = Sx
    · rw [e]; exact nS
    · rw [up1_ne e] at q; exact absurd n q⟩
  have l1 := rl.length
  have l2 := rl2.length
  have hS' : zipH H1 Sx as xs ys Sx = some (.lst (as.map V.ref)) := by unfold zipH; rw [if_pos rfl]
  have rz : RpL X.K X.mg (zipH H1 Sx as xs ys) (zipD ds es) (as.map V.ref) := by
    refine RpL.of_get (by rw [zipD_length, List.length_map, hal, l1, l2]) fun i d v e1 e2 => ?_
    obtain ⟨x, y, rfl, h1, h2⟩ := zipD_get' e1
    rw [List.getElem?_map] at e2
    cases e3 : as[i]? with
    | none => rw [e3] at e2; cases e2
    | some T =>
      rw [e3] at e2
      cases e2
      have hTne : T ≠ Sx := fun z => Nat.lt_irrefl _ (Nat.lt_of_le_of_lt hlo (z ▸ hab T (List.mem_of_getElem? e3)))
      have hT : zipH H1 Sx as xs ys T = some (.tup [xs.getD i .non, ys.getD i .non]) := by
        unfold zipH
        rw [if_neg hTne, idxOf?_of nd e3]
      exact .tup (.inl hT) (.cons ((rl.getD h1).mono tA) (.cons ((rl2.getD h2).mono tA) .nil))
  refine k _ _ _ _ (t1.trans tr) (fun c o e => ?_) (.ref Sx) (h1 Sx (s1.free nS))
  by_cases ec : c = Sx
  · subst ec
    rw [up1_same] at e; cases e
    exact ⟨_, hS', .lst rz⟩
  · rw [up1_ne ec] at e
    obtain ⟨u, q, r'⟩ := s1 c o e
    exact ⟨u, keep c u q, r'.mono tA⟩
end
end DL

set_option Elab.async false
set_option linter.all false
set_option maxRecDepth 100000
set_option maxHeartbeats 4000000
namespace DL
open PySem PySem.Spec PyProof.Rows L2 RZ
section
variable {X : Cx} {Z : Zb} {K : PySem.W.Frag} {mg : Str → Option Value}
/-! ### names of built-in types and functions -/
theorem s_ty {x : Str} {n : String} {p : Pos} (hg : Gl X x) (hm : X.mg x = none) (hv : bootBuiltins x = some (.type n)) (hn : x ≠ "__name__") (hd : (x == ("__debug__" : Str)) = false) : SE X Z (.Name x p) (dC (.ty n)) :=
  peI (pe_bltn hg hm hv (v := .ty n) rfl hn hd) fun _ _ _ ⟨_, _, _, _, s, _, h, k⟩ => k.now s (.ty n) h
/-! ### helpers on argument lists -/
theorem sqD_at {H : Hp} {S : Sto} {x : D} {v : V} {P : List D → (Sto → Prop) → Prop} (s : StO K mg S H) (r : Rp K mg H x v) (h : sqD x S P) :
    ∃ k a ds xs chk, v = .ref a ∧ SqK K k H a xs ∧ RpL K mg H ds xs ∧ P ds chk := by
  obtain ⟨k, a, ds, chk, rfl, o, h⟩ := sqD_of s r h
  obtain ⟨xs, sq, rl⟩ := o.sq S H (Tr.refl _ _) s o.now
  exact ⟨k, a, ds, xs, chk, rfl, sq, rl, h⟩
theorem SqK.or {k : Bool} {H : Hp} {a : Addr} {xs : List V} (h : SqK K k H a xs) : SqL K H a xs ∨ SqT K H a xs := by
  cases k
  · exact .inl h
  · exact .inr h
/-- one argument -/
def a1 (xs : List D) (P : D → Prop) : Prop := match xs with
  | [x] => P x
  | _ => False
theorem a1_of {H : Hp} {xs : List D} {vs : List V} {P : D → Prop} (r : RpL K mg H xs vs) (h : a1 xs P) : ∃ x v, xs = [x] ∧ vs = [v] ∧ Rp K mg H x v ∧ P x := by
  unfold a1 at h
  split at h
  · obtain ⟨v, rfl, q⟩ := r.o1
    exact ⟨_, v, rfl, rfl, q, h⟩
  · exact h.elim
def a2 (xs : List D) (P : D → D → Prop) : Prop := match xs with
  | [x, y] => P x y
  | _ => False
theorem a2_of {H : Hp} {xs : List D} {vs : List V} {P : D → D → Prop} (r : RpL K mg H xs vs) (h : a2 xs P) : ∃ x y v w, xs = [x, y] ∧ vs = [v, w] ∧ Rp K mg H x v ∧ Rp K mg H y w ∧ P x y := by
  unfold a2 at h
  split at h
  · obtain ⟨v, w, rfl, q1, q2⟩ := r.o2
    exact ⟨_, _, v, w, rfl, rfl, q1, q2, h⟩
  · exact h.elim
/-! ### len -/
def dLen : DN := fun xs S Q => a1 xs fun x => match x with
  | .str z => z.length ≤ sizeLine ∧ Q (.int z.length) S
  | .tup ds => Q (.int ds.length) S
  | .ref a => ∃ ds, LA S a ds ∧ Q (.int ds.length) S
  | _ => False
def rLenA (K : PySem.W.Frag) : List V → Hp → VK → Prop := fun xs H Q => (∃ p ys, xs = [.ref p] ∧ (SqL K H p ys ∨ SqT K H p ys) ∧ Q (.int ys.length) H) ∨ ∃ z, xs = [.str z] ∧ z.length ≤ sizeLine ∧ Q (.int z.length) H
theorem cr_len : CallR X (.builtin "len") (rLenA X.K) := call_len_seq.or call_len_str
theorem len_ok : OpN K mg (rLenA K) dLen := by
  intro S H xs vs P Q s rx h k
  obtain ⟨x, v, rfl, rfl, r, h⟩ := a1_of rx h
  cases r with
  | str z => exact .inr ⟨z, rfl, h.1, k.now s (.int _) h.2⟩
  | tup sq rl => exact .inl ⟨_, _, rfl, .inr sq.sq, by rw [← rl.length]; exact k.now s (.int _) h⟩
  | ref a =>
    obtain ⟨ds, l, h⟩ := h
    obtain ⟨ys, sq, rl⟩ := s.sqL l
    exact .inl ⟨_, _, rfl, .inl sq, by rw [← rl.length]; exact k.now s (.int _) h⟩
  | non => exact h.elim
  | bl _ => exact h.elim
  | int _ => exact h.elim
  | fn _ => exact h.elim
  | ty _ => exact h.elim
  | lw _ _ => exact h.elim
/-! ### abs, int, min, max of ints -/
def dAbs : DN := fun xs S Q => a1 xs fun x => match x with
  | .int i => Q (.int (if i < 0 then -i else i)) S
  | _ => False
theorem abs_ok : OpN K mg (fun xs H Q => ∃ i, xs = [.int i] ∧ Q (.int (if i < 0 then -i else i)) H) dAbs := by
  intro S H xs vs P Q s rx h k
  obtain ⟨x, v, rfl, rfl, r, h⟩ := a1_of rx h
  cases r <;> first
    | exact h.elim
    | exact ⟨_, rfl, k.now s (.int _) h⟩
def dInt : DN := fun xs S Q => a1 xs fun x => match x with
  | .int i => Q (.int i) S
  | .bl b => Q (.int (if b then 1 else 0)) S
  | _ => False
theorem int_ok : OpN K mg (fun xs H Q => (∃ i, xs = [.int i] ∧ Q (.int i) H) ∨ ∃ k, xs = [.bl k] ∧ Q (.int (if k then 1 else 0)) H) dInt := by
  intro S H xs vs P Q s rx h k
  obtain ⟨x, v, rfl, rfl, r, h⟩ := a1_of rx h
  cases r <;> first
    | exact h.elim
    | exact .inl ⟨_, rfl, k.now s (.int _) h⟩
    | exact .inr ⟨_, rfl, k.now s (.int _) h⟩
def dMin2 : DN := fun xs S Q => a2 xs fun x y => match x, y with
  | .int i, .int j => Q (.int (if j < i then j else i)) S
  | _, _ => False
theorem min2_ok : OpN K mg (fun xs H Q => ∃ i j, xs = [.int i, .int j] ∧ Q (.int (if j < i then j else i)) H) dMin2 := by
  intro S H xs vs P Q s rx h k
  obtain ⟨x, y, v, w, rfl, rfl, r, r', h⟩ := a2_of rx h
  cases r <;> cases r' <;> first
    | exact h.elim
    | exact ⟨_, _, rfl, k.now s (.int _) h⟩
def dMax2 : DN := fun xs S Q => a2 xs fun x y => match x, y with
  | .int i, .int j => Q (.int (if j > i then j else i)) S
  | _, _ => False
theorem max2_ok : OpN K mg (fun xs H Q => ∃ i j, xs = [.int i, .int j] ∧ Q (.int (if j > i then j else i)) H) dMax2 := by
  intro S H xs vs P Q s rx h k
  obtain ⟨x, y, v, w, rfl, rfl, r, r', h⟩ := a2_of rx h
  cases r <;> cases r' <;> first
    | exact h.elim
    | exact ⟨_, _, rfl, k.now s (.int _) h⟩
/-! ### sum of a list or tuple of ints -/
theorem walksK {prog : Program} {w : World} {A : Around} (hh : A.handled = none) (k : Bool) (it a : Addr) (hne : a ≠ it) (its : Array Value) :
    Walks prog w A it [it, a] [it] its.size (fun i v => its[i]? = some v) (fun i h => IsIt h k it a i ∧ IsSq h k a its) := by
  cases k
  · exact Walks.list hh it a hne its
  · exact Walks.tuple hh it a hne its
theorem vals_int_at : ∀ {ns : List Int} {us : List Value} {i : Nat} {u : Value}, Vals (ns.map V.int) us → us[i]? = some u → ∃ t, u = .int (ns.getD i 0) t
  | [], _, i, _, .nil, e => by simp at e
  | n :: ns, _, 0, u, .cons r _, e => by
    simp at e; subst e
    obtain ⟨t, rfl⟩ := r
    exact ⟨t, rfl⟩
  | n :: ns, _, i + 1, u, .cons _ t, e => by
    obtain ⟨tk, h⟩ := vals_int_at (i := i) (u := u) t (by simpa using e)
    exact ⟨tk, by simpa using h⟩
def rSumK (K : PySem.W.Frag) : List V → Hp → VK → Prop := fun vs H Q => ∃ (k : Bool) (a : Addr) (ns : List Int), vs = [V.ref a] ∧ SqK K k H a (ns.map V.int) ∧ Q (.int ns.sum) H
theorem cr_sumK (hc : X.calm = true) : CallR X (.builtin "sum") (rSumK X.K) := by
  intro pins s σ H vs us Q I r h
  obtain ⟨k, a, ns, rfl, hs, q⟩ := h
  obtain ⟨its, rv, p⟩ := Inv.sqK I hs
  rw [Vals.ref1 r]
  have hl := rv.length
  rw [List.length_map] at hl
  have hne : a ≠ s.heap.objs.size := Nat.ne_of_lt p.lt
  refine call_sum_walkG ((beginsK k a its.toArray).iter X.prog X.w X.A.in1 _ s _ p ⟨s.heap.objs.size, [s.heap.objs.size, a], [s.heap.objs.size], its.toArray.size, _, _, fun i => ns.getD i 0, rfl,
    walksK (prog := X.prog) (w := X.w) (A := X.A.in1) (show X.A.in1.handled = none from I.ok.hd hc) k s.heap.objs.size a hne its.toArray, ⟨?_, ?_⟩, ?_, fun i v hv => vals_int_at rv (by simpa using hv), fun h' tk t' hk => ?_⟩)
  · exact IsIt.new (Heap.get?_push_size _ (beginsK k a its.toArray).free)
  · exact p.at fun o e => Heap.get?_push_of_some _ e
  · intro b hb
    rw [Heap.size_push]
    have : b = s.heap.objs.size ∨ b = a := by simpa using hb
    rcases this with z | z
    · rw [z]; exact Nat.lt_succ_self _
    · rw [z]; exact Nat.lt_succ_of_lt p.lt
  · rw [show preSum (fun i => ns.getD i 0) its.toArray.size = ns.sum by rw [preSum_getD, List.take_of_length_le (by simp; omega)]]
    exact ⟨.int _, H, I.kept fun b o e => hk b o (by simpa using Nat.ne_of_lt (Heap.lt_size e)) (Heap.get?_push_of_some _ e), ⟨_, rfl⟩, q⟩
def dSum : DN := fun xs S Q => a1 xs fun x => sqD x S fun ds _ => ∃ ns : List Int, ds = ns.map D.int ∧ Q (.int ns.sum) S
theorem sum_ok : OpN K mg (rSumK K) dSum := by
  intro S H xs vs P Q s rx h k
  obtain ⟨x, v, rfl, rfl, r, h⟩ := a1_of rx h
  obtain ⟨kk, a, ds, us, chk, rfl, sq, rl, ns, rfl, h⟩ := sqD_at s r h
  rw [rl.ints] at sq
  exact ⟨kk, a, ns, rfl, sq, k.now s (.int _) h⟩
/-! ### all, any of a list of truths -/
def dAll : DN := fun xs S Q => a1 xs fun x => match x with
  | .ref a => ∃ bs : List Bool, LA S a (bs.map D.bl) ∧ Q (.bl (bs.all id)) S
  | _ => False
theorem all_ok : OpN K mg (rAll K) dAll := by
  intro S H xs vs P Q s rx h k
  obtain ⟨x, v, rfl, rfl, r, h⟩ := a1_of rx h
  cases r <;> first
    | exact h.elim
    | skip
  obtain ⟨bs, l, h⟩ := h
  obtain ⟨us, sq, rl⟩ := s.sqL l
  rw [rl.bls] at sq
  exact ⟨_, bs, rfl, sq, k.now s (.bl _) h⟩
def dAny : DN := fun xs S Q => a1 xs fun x => match x with
  | .ref a => ∃ bs : List Bool, LA S a (bs.map D.bl) ∧ Q (.bl (bs.any id)) S
  | _ => False
theorem any_ok : OpN K mg (rAny K) dAny := by
  intro S H xs vs P Q s rx h k
  obtain ⟨x, v, rfl, rfl, r, h⟩ := a1_of rx h
  cases r <;> first
    | exact h.elim
    | skip
  obtain ⟨bs, l, h⟩ := h
  obtain ⟨us, sq, rl⟩ := s.sqL l
  rw [rl.bls] at sq
  exact ⟨_, bs, rfl, sq, k.now s (.bl _) h⟩
/-! ### list(x), tuple(x), list(range(..)) -/
def dList1 : DN := fun xs S Q => a1 xs fun x => sqD x S fun ds _ => ∀ p, S p = none → Q (.ref p) (up1 S p (.lst ds))
theorem list1_ok : OpN K mg (fun xs H Q => ∃ p ys, xs = [.ref p] ∧ (SqL K H p ys ∨ SqT K H p ys) ∧ ∀ l, H l = none → Q (.ref l) (upd H l (.lst ys))) dList1 := by
  intro S H xs vs P Q s rx h k
  obtain ⟨x, v, rfl, rfl, r, h⟩ := a1_of rx h
  obtain ⟨kk, a, ds, us, chk, rfl, sq, rl, h⟩ := sqD_at s r h
  exact ⟨a, us, rfl, sq.or, k.newL s rl h⟩
def dTuple1 : DN := fun xs S Q => a1 xs fun x => sqD x S fun ds _ => Q (.tup ds) S
theorem tuple1_ok : OpN K mg (fun xs H Q => ∃ p ys, xs = [.ref p] ∧ ((SqL K H p ys ∧ ∀ l, H l = none → Q (.ref l) (upd H l (.tup ys))) ∨ (SqT K H p ys ∧ Q (.ref p) H))) dTuple1 := by
  intro S H xs vs P Q s rx h k
  obtain ⟨x, v, rfl, rfl, r, h⟩ := a1_of rx h
  cases r with
  | tup sq rl => exact ⟨_, _, rfl, .inr ⟨sq.sq, k.now s (.tup sq rl) h⟩⟩
  | ref a =>
    obtain ⟨ds, l, h⟩ := h
    obtain ⟨us, sq, rl⟩ := s.sqL l
    exact ⟨_, us, rfl, .inl ⟨sq, k.newT s rl h⟩⟩
  | non => exact h.elim
  | bl _ => exact h.elim
  | int _ => exact h.elim
  | str _ => exact h.elim
  | fn _ => exact h.elim
  | ty _ => exact h.elim
  | lw _ _ => exact h.elim
/-! ### sorted of ints -/
def dSortI : DN := fun xs S Q => a1 xs fun x => match x with
  | .ref a => ∃ ns : List Int, LA S a (ns.map D.int) ∧ ∀ (ns' : List Int) (p : Addr), ns'.Perm ns → ns'.Pairwise (· ≤ ·) → S p = none → Q (.ref p) (up1 S p (.lst (ns'.map D.int)))
  | _ => False
theorem sortI_ok : OpN K mg (rSortedI K) dSortI := by
  intro S H xs vs P Q s rx h k
  obtain ⟨x, v, rfl, rfl, r, h⟩ := a1_of rx h
  cases r <;> first
    | exact h.elim
    | skip
  obtain ⟨ns, l, h⟩ := h
  obtain ⟨us, sq, rl⟩ := s.sqL l
  rw [rl.ints] at sq
  refine ⟨_, ns, rfl, sq, fun ns' p h1 h2 h3 => ?_⟩
  exact k.newL s (RpL.of_ints ns') (fun p' hp => h ns' p' h1 h2 hp) p h3
/-! ### isinstance -/
/-- a value's built-in type -/
def tyN (x : D) (S : Sto) (P : String → Prop) : Prop := match x with
  | .non => P "NoneType"
  | .bl _ => P "bool"
  | .int _ => P "int"
  | .str _ => P "str"
  | .tup _ => P "tuple"
  | .ref a => (∃ ds, LA S a ds) ∧ P "list"
  | _ => False
theorem tyN_of {H : Hp} {S : Sto} {x : D} {v : V} {P : String → Prop} (s : StO K mg S H) (r : Rp K mg H x v) (h : tyN x S P) : ∃ t, TyX K H v (.type t) ∧ P t := by
  cases r with
  | non => exact ⟨_, .base .non, h⟩
  | bl b => exact ⟨_, .base (.bl b), h⟩
  | int i => exact ⟨_, .base (.int i), h⟩
  | str z => exact ⟨_, .base (.str z), h⟩
  | tup sq rl =>
    rcases sq with sq | ⟨o, its, n, e, c, d, _⟩
    · exact ⟨_, .base (.tup sq), h⟩
    · exact ⟨_, .kTuple e c, h⟩
  | ref a =>
    obtain ⟨⟨ds, l⟩, h⟩ := h
    obtain ⟨o, q, rc⟩ := s a _ l
    cases rc
    exact ⟨_, .base (.lst q), h⟩
  | fn _ => exact h.elim
  | ty _ => exact h.elim
  | lw _ _ => exact h.elim
def dIsi : DN := fun xs S Q => a2 xs fun x c => match c with
  | .ty n => tyN x S fun t => ∃ b, kitB t n = some b ∧ Q (.bl b) S
  | .tup [.ty n, .ty m] => tyN x S fun t => ∃ b b', kitB t n = some b ∧ kitB t m = some b' ∧ Q (.bl (b || b')) S
  | .tup [.ty n, .ty m, .ty l] => tyN x S fun t => ∃ b b' b'', kitB t n = some b ∧ kitB t m = some b' ∧ kitB t l = some b'' ∧ Q (.bl (b || (b' || b''))) S
  | _ => False
def rIsiA (K : PySem.W.Frag) : List V → Hp → VK → Prop := fun xs H Q => rIsi K xs H Q ∨ rIsiT K xs H Q ∨ rIsiK K xs H Q
theorem cr_isiA : CallR X (.builtin "isinstance") (rIsiA X.K) := call_isi.or (call_isiT.or call_isiK)
theorem kit_or {t : Value} {c : Value} {cs : List Value} {b b' : Bool} (h : PySem.W.kitOne K t c = some b) (h' : PySem.W.kitAny K t cs = some b') : PySem.W.kitAny K t (c :: cs) = some (b || b') :=
  kitAny_cons h (fun e => by subst e; exact h') fun e => by subst e; rfl
theorem RpL.tys {H : Hp} : ∀ {ns : List String} {vs : List V}, RpL K mg H (ns.map D.ty) vs → vs = ns.map V.ty
  | [], _, .nil => rfl
  | _ :: _, _, .cons r t => by cases r; rw [RpL.tys t]; rfl
theorem paired_ty : ∀ ns : List String, Paired ClsV (ns.map V.ty) (ns.map Value.type)
  | [] => .nil
  | n :: r => .cons (.ty n) (paired_ty r)
theorem vals_ty : ∀ {ns : List String} {us : List Value}, Vals (ns.map V.ty) us → us = ns.map Value.type
  | [], _, .nil => rfl
  | _ :: _, _, .cons r t => by
    have := vals_ty t
    subst this
    cases r
    rfl
theorem isi_tup {S : Sto} {H : Hp} {x : D} {v : V} {a : Addr} {ns : List String} {us : List V} {t : String} {b : Bool} {Q : VK} (sq : TupA K H a us) (rl : RpL K mg H (ns.map D.ty) us) (ty : TyX K H v (.type t)) (hk : PySem.W.kitAny K (.type t) (ns.map Value.type) = some b) (q : Q (.bl b) H) : rIsiA K [v, .ref a] H Q := by
  rw [rl.tys] at sq
  rcases sq with sq | ⟨o, its, n, e, c, d, hz, rv⟩
  · exact .inr (.inl ⟨v, a, _, _, _, b, rfl, sq, paired_ty ns, ty, hk, q⟩)
  · have e2 := vals_ty rv
    obtain ⟨oc, od, dt, sl⟩ := o
    dsimp only at c d
    subst c d
    have e3 : its = (ns.map Value.type).toArray := by rw [← e2]
    subst e3
    exact .inr (.inr ⟨v, a, od, ns.map Value.type, n, sl, _, b, rfl, e, ty, hk, q⟩)
theorem isi_ok : OpN K mg (rIsiA K) dIsi := by
  intro S H xs vs P Q s rx h k
  obtain ⟨x, y, v, w, rfl, rfl, r, r', h⟩ := a2_of rx h
  split at h
  · cases r'
    obtain ⟨t, ty, b, hk, h⟩ := tyN_of s r h
    exact .inl ⟨v, _, _, _, b, rfl, .ty _, ty, kit_ty hk, k.now s (.bl _) h⟩
  · rename_i n m _
    obtain ⟨t, ty, b, b', hk, hk', h⟩ := tyN_of s r h
    cases r' with
    | tup sq rl => exact isi_tup (S := S) (x := x) (ns := [n, m]) sq rl ty (kit_or (kit_ty hk) (by rw [← Bool.or_false b']; exact kit_or (kit_ty hk') kitAny_nil)) (k.now s (.bl _) h)
  · rename_i n m l _
    obtain ⟨t, ty, b, b', b'', hk, hk', hk'', h⟩ := tyN_of s r h
    cases r' with
    | tup sq rl => exact isi_tup (S := S) (x := x) (ns := [n, m, l]) sq rl ty (kit_or (kit_ty hk) (kit_or (kit_ty hk') (by rw [← Bool.or_false b'']; exact kit_or (kit_ty hk'') kitAny_nil))) (k.now s (.bl _) h)
  · exact h.elim
/-! ### x in a list, a tuple, by data -/
def rInD (K : PySem.W.Frag) (neg : Bool) : R2 := fun x y H Q => ∃ (k : Bool) (p : Addr) (ps : List PyData) (q : PyData), y = .ref p ∧ Dp K H y (if k then .tuple ps else .list ps) ∧ Dp K H x q ∧ SeqAt.shaped (.list ps) = true ∧ SeqAt.shaped (.tuple ps) = true ∧ SeqAt.shaped q = true ∧
  Q (.bl (if neg then !(ps.any fun z => PyData.eqv z q) else ps.any fun z => PyData.eqv z q)) H
theorem op_inD (hu : X.A.units + 65 < cLine) : OpR X (compareOp .In) (rInD X.K false) := by
  intro pins s σ H x y v u Q I rx ry h
  obtain ⟨k, p, ps, q, rfl, hy, hx, s1, s2, s3, h⟩ := h
  obtain ⟨as, r1⟩ := Dp.reads I _ _ _ hy ry
  obtain ⟨bs, r2⟩ := Dp.reads I _ _ _ hx rx
  cases k
  · exact SeqAt.in_list_reads r1 r2 (SeqAt.canLay_of_shaped s1) (SeqAt.canLay_of_shaped s3) (room_in_shaped s3 hu) ⟨.bl _, H, I, rfl, h⟩
  · exact SeqAt.in_tuple_reads r1 r2 (SeqAt.canLay_of_shaped s2) (SeqAt.canLay_of_shaped s3) (room_in_shaped s3 hu) ⟨.bl _, H, I, rfl, h⟩
theorem op_notInD (hu : X.A.units + 65 < cLine) : OpR X (compareOp .NotIn) (rInD X.K true) := by
  intro pins s σ H x y v u Q I rx ry h
  obtain ⟨k, p, ps, q, rfl, hy, hx, s1, s2, s3, h⟩ := h
  obtain ⟨as, r1⟩ := Dp.reads I _ _ _ hy ry
  obtain ⟨bs, r2⟩ := Dp.reads I _ _ _ hx rx
  cases k
  · exact SeqAt.notIn_list_reads r1 r2 (SeqAt.canLay_of_shaped s1) (SeqAt.canLay_of_shaped s3) (room_in_shaped s3 hu) ⟨.bl _, H, I, rfl, h⟩
  · exact SeqAt.notIn_tuple_reads r1 r2 (SeqAt.canLay_of_shaped s2) (SeqAt.canLay_of_shaped s3) (room_in_shaped s3 hu) ⟨.bl _, H, I, rfl, h⟩
def dIn (neg : Bool) : D2 := fun x y S Q => sqD y S fun ds _ => ∃ ps q, DdL S ds ps ∧ Dd S x q ∧ SeqAt.shaped (.list ps) = true ∧ SeqAt.shaped (.tuple ps) = true ∧ SeqAt.shaped q = true ∧
  Q (.bl (if neg then !(ps.any fun z => PyData.eqv z q) else ps.any fun z => PyData.eqv z q)) S
theorem in_ok (neg : Bool) : Op2 K mg (rInD K neg) (dIn neg) := by
  intro S H x y v u P Q s rx ry h k
  cases ry with
  | tup sq rl =>
    obtain ⟨ps, q, d1, d2, s1, s2, s3, h⟩ := h
    exact ⟨true, _, ps, q, rfl, .tup sq.sq (d1.dp s rl), d2.dp s rx, s1, s2, s3, k.now s (.bl _) h⟩
  | ref a =>
    obtain ⟨ds, l, ps, q, d1, d2, s1, s2, s3, h⟩ := h
    obtain ⟨us, sq, rl⟩ := s.sqL l
    exact ⟨false, _, ps, q, rfl, .lst sq (d1.dp s rl), d2.dp s rx, s1, s2, s3, k.now s (.bl _) h⟩
  | non => exact h.elim
  | bl _ => exact h.elim
  | int _ => exact h.elim
  | str _ => exact h.elim
  | fn _ => exact h.elim
  | ty _ => exact h.elim
  | lw _ _ => exact h.elim
/-! ### pop -/
def dPopI : DM := fun x vs S Q => match x, vs with
    | .ref a, [.int i] => ∃ ds j y, S a = some (.lst ds) ∧ -(2 ^ 63) ≤ i ∧ i < 2 ^ 63 ∧ seqIndex? i ds.length = some j ∧ ds[j]? = some y ∧ Q y (up1 S a (.lst (ds.eraseIdx j)))
    | _, _ => False
theorem popAt_ok : OpM K mg rPopAt dPopI := by
  intro S H x xs v vs P Q s rx rxs h k
  unfold dPopI at h
  split at h
  · obtain ⟨ds, j, y, ha, h1, h2, h3, h4, q⟩ := h
    cases rx
    obtain ⟨w, rfl, ry⟩ := rxs.o1
    cases ry
    obtain ⟨us, e1, rl⟩ := s.lst ha
    obtain ⟨z, e2, rz⟩ := rl.get h4
    exact ⟨_, us, _, j, z, rfl, rfl, e1, h1, h2, by rw [← rl.length]; exact h3, e2, k _ _ _ _ (Tr.wrote ha) (s.wrote ha (.lst (rl.eraseIdx j))) (rz.mono ((Tr.wrote (c := .lst (ds.eraseIdx j)) ha).kp s)) q⟩
  · exact h.elim
theorem RpL.dropLast {H : Hp} {ds : List D} {vs : List V} (r : RpL K mg H ds vs) : RpL K mg H ds.dropLast vs.dropLast := by
  rw [List.dropLast_eq_take, List.dropLast_eq_take, r.length]
  exact r.take _
def dPop0 : DM := fun x vs S Q => match x, vs with
    | .ref a, [] => ∃ ds y, S a = some (.lst ds) ∧ ds[ds.length - 1]? = some y ∧ Q y (up1 S a (.lst ds.dropLast))
    | _, _ => False
theorem pop0_ok : OpM K mg rPop dPop0 := by
  intro S H x xs v vs P Q s rx rxs h k
  unfold dPop0 at h
  split at h
  · obtain ⟨ds, y, ha, h4, q⟩ := h
    cases rx
    cases rxs
    obtain ⟨us, e1, rl⟩ := s.lst ha
    obtain ⟨z, e2, rz⟩ := rl.get h4
    exact ⟨_, us, z, rfl, rfl, e1, by rw [← rl.length]; exact e2, k _ _ _ _ (Tr.wrote ha) (s.wrote ha (.lst rl.dropLast)) (rz.mono ((Tr.wrote (c := .lst ds.dropLast) ha).kp s)) q⟩
  · exact h.elim
/-! ### range(i, j, -1) -/
theorem iok_rngC {S1 : Sto} {H1 : Hp} {i : Int} {n : Nat} : IOk K mg (Itc i (-1) n) ((List.range n).map fun k => D.int (i - (k : Nat))) (fun _ => True) S1 H1 where
  go := fun i S H t s l hi => by
    show i < n
    simpa using hi
  stop := fun S H t s l => by simp [Itc]
  yld := fun k S H v H' t s l hi ⟨e, q⟩ => by
    subst e q
    have hk : k < n := by simpa using hi
    refine ⟨.int (i - (k : Nat)), by simp [hk], Tr.refl _ _, s, ?_⟩
    rw [show i + (k : Int) * (-1) = i - (k : Nat) by omega]
    exact .int _
theorem si_rng3 {tg a b c : Expr} {ta : DA} {p pos : Pos} (hg : Gl X "range") (hm : X.mg "range" = none) (ha : SA X Z [a, b, c] ta) (hs : starEach [a, b, c] X.env = (false, eval a X.env) :: starEach [b, c] X.env) (hpl : (backTo pos (starEach [b, c] X.env)).any (·.1) = false) :
    SI X Z tg (.Call (.Name "range" p) [a, b, c] [] pos) (iRng3 ta) := by
  refine piI (pi_range3 hg hm ha hs hpl) fun σ H R ⟨ρ, S, P, r, s, z, h, k⟩ => ?_
  refine ⟨ρ, S, _, r, s, z, h, fun x S1 v H1 t1 s1 rx h1 => ?_⟩
  unfold rng3P at h1
  split at h1
  · obtain ⟨rfl, ⟨b1, b2, b3, b4⟩, h1⟩ := h1
    exact ⟨_, _, -1, _, rx.i3, RgC.neg b1 b2 b3 b4, k _ _ _ _ _ t1 s1 iok_rngC h1⟩
  · exact h1.elim
end
end DL

set_option Elab.async false
set_option linter.all false
set_option maxRecDepth 100000
set_option maxHeartbeats 4000000
namespace DL
open PySem PySem.Spec PyProof.Rows L2 RZ
/-! ### defs, where no repr is under way -/
structure RoomG (k : Nat) (A : Around) : Prop where
  r : Room k A
  g : A.guards = some []
theorem RoomG.mono {j k : Nat} {A : Around} (r : RoomG k A) (h : j ≤ k) : RoomG j A := ⟨r.r.mono h, r.g⟩
theorem RoomG.deeper {k : Nat} {A : Around} (r : RoomG (k + 1) A) (env : Env) : RoomG k (A.deeper env) := ⟨r.r.deeper env, r.g⟩
structure FnG (P : Program) (w : World) (K : PySem.W.Frag) (mg : Str → Option Value) (base : Heap) (CX : CXT) (k : Nat) (f : Addr) (fd : FuncData) (ps : List Str) (sp : Sp) : Prop where
  len : ∀ vs H Q E, sp vs H Q E → vs.length = ps.length
  run : ∀ (A : Around) (outer : List Env) (s : Shared) (H : Hp) (args : Args) (us : List Value) (vs : List V) (Q : VK) (E : XK), RoomG k A → Env0 P w K mg base A outer s H → BindsTo s fd args (ps.zip us) → Vals vs us → sp vs H Q E →
    codeAny (model P w) A (.call (.ref f) args) (CR CX outer P w H s Q E) s
theorem fnG_of {CX : CXT} {P : Program} {w : World} {K : PySem.W.Frag} {mg : Str → Option Value} {base : Heap} {k : Nat} {f : Addr} {name qual : Str} {params : Arguments} {body : List Stmt} {scope : Scope} {dV kV doc pm cdv ct oc : Value} {an od : Option Addr}
    {osl : Array (Option Value)} {N ps : List Str} {sp : Sp} (lk : K.lookup f = some ⟨oc, od, .func (PySem.W.fnOf name qual params body scope dV kV doc pm an cdv ct), osl⟩) (hcd : PySem.W.codeIn K cdv qual = true) (S : FnScope N ps scope)
    (len : ∀ vs H Q E, sp vs H Q E → vs.length = ps.length)
    (hbody : ∀ (A : Around) (outer : List Env) (s : Shared) (H : Hp) (vs : List V) (Q : VK) (E : XK), RoomG k (A.deeper (envOfC qual scope s.heap.objs.size f cdv)) → sp vs H Q E →
      ∃ t, PSs (cxOf CX P w K mg base N qual scope f cdv A outer s H E) body t ∧ t { nx := fun _ H' => Q .non H', rt := Q } (start N vs) H) :
    FnG P w K mg base CX (k + 1) f (PySem.W.fnOf name qual params body scope dV kV doc pm an cdv ct) ps sp := by
  refine ⟨len, fun A outer s H args us vs Q E hr e0 hb r hsp => ?_⟩
  have hl := len _ _ _ _ hsp
  have KX : K.In s.heap := e0.mod.kin.keeps fun b o e => (e0.bs b o e).1
  have lim : s.heap.NoLimit := e0.mod.nolimit.keeps fun b o e => (e0.bs b o e).1
  have hkind : ∀ y ∈ ps.zip us, scope.names.lookup y.1 = some .local ∨ (scope.names.lookup y.1 = some .cell ∧ ((cellsFrom (s.heap.objs.size + 1) scope.names []).lookup y.1).isSome = true) := fun ⟨n, v⟩ hy =>
    (S.par n (List.of_mem_zip hy).1).imp id fun q => ⟨q, PySem.W.cellsFrom_some _ _ _ (.inl q)⟩
  refine codeAny_call_function hr.r.depth (KX _ _ lk) rfl S.co S.gen rfl (PySem.W.codeRec_of KX hcd) (hb _ _ _ _ ?_)
  refine wpAny_newFunctionEnv_cells S.kind hkind fun env he s1 x => ?_
  subst he
  refine ⟨lim.keeps x.toInCall.keep, codeAny_func ?_⟩
  obtain ⟨t, ht, hq⟩ := hbody A outer s H vs Q E (hr.deeper _) hsp
  refine wpAny_mono (ht.run [] s1 (start N vs) H _ (inv_start S hr.r.hd e0 hl r x) hq) (fun fl s' hs => ?_) fun e s' hs => hs
  have fin : ∀ {σ' : L2.St} {H' : Hp} {v : V} {u : Value}, Inv (cxOf CX P w K mg base N qual scope f cdv A outer s H E) [] σ' H' s' → RelV v u → Q v H' → CE outer P w H s Q u s' :=
    fun {σ' H' v u} J rv q => ⟨v, H', J.os, J.bare, J.base, J.hok, rv, q⟩
  cases fl with
  | ret u => obtain ⟨v, σ', H', J, rv, q⟩ := hs; exact fin J rv q
  | next => obtain ⟨σ', H', J, q⟩ := hs; exact fin (v := V.non) (u := Value.none) J rfl q
  | brk => obtain ⟨_, _, _, q⟩ := hs; exact False.elim q
  | cont => obtain ⟨_, _, _, q⟩ := hs; exact False.elim q
section
variable {X : Cx} {k : Nat} {f : Addr} {fd : FuncData} {ps : List Str} {sp : Sp} {E : L2.St → XK} {CX : CXT}
theorem run_fnG {pins : List (Addr × Obj)} {σ : L2.St} {H : Hp} {s : Shared} {Q : VK} {us : List Value} {vs : List V} (F : FnG X.prog X.w X.K X.mg X.base CX k f fd ps sp) (hr : RoomG k X.A) (hb : Binds X.K fd ps []) (hx : PassesAt CX X σ (E σ))
    (I : Inv X pins σ H s) (r : Vals vs us) (h : sp vs H Q (E σ)) : wpAny (model X.prog X.w) X.A (call (.ref f) us) (EP X pins σ Q) X.xe s := by
  have hl : us.length = ps.length := by rw [← r.length]; exact F.len _ _ _ _ h
  have b := hb s us I.kIn (by rw [List.append_nil]; exact hl)
  rw [List.append_nil] at b
  refine wpAny_call (codeAny_mono (F.run X.A X.stack s H ⟨us, []⟩ us vs Q (E σ) hr I.env0 b r h) fun r s' hq => ?_)
  cases r with
  | error e => exact hx pins H s e s' I hq
  | ok fl =>
    cases fl with
    | ret u => exact I.after hq
    | next => exact False.elim hq
    | brk => exact False.elim hq
    | cont => exact False.elim hq
end

/-! ### exceptions by data -/
/-- how an exception lies: its class, its own dict -/
inductive RpX (K : PySem.W.Frag) (mg : Str → Option Value) (H : Hp) : Exc → Value → Option Addr → Prop where
  | own {e : Exc} {C d : Addr} {fs : List (Str × V)} : mg e.cls = some (.ref C) → H d = some (.xd fs) → fs.map (·.1) = e.fs.map (·.1) → RpL K mg H (e.fs.map (·.2)) (fs.map (·.2)) → RpX K mg H e (.ref C) (some d)
  | bare {e : Exc} {n : String} : e.cls = (n : Str) → mg e.cls = none → e.fs = [] → RpX K mg H e (.type n) none
def KtX (K : PySem.W.Frag) (mg : Str → Option Value) (S : Sto) (H : Hp) (P : Exc → Sto → Prop) (E : XK) : Prop :=
  ∀ e S' cls d H', Tr S H S' H' → StO K mg S' H' → RpX K mg H' e cls d → P e S' → E cls d H'
/-- what this context wants of an exception -/
def upW (K : PySem.W.Frag) (mg : Str → Option Value) (Z : Zb) (EX : EXn) : WX := fun cls d σ H => ∃ e ρ S, RpS K mg H ρ σ ∧ StO K mg S H ∧ Tr Z.S Z.H S H ∧ RpX K mg H e cls d ∧ EX e ρ S
def xNo : EXn := fun _ _ _ => False
theorem takesNo {X : Cx} {Z : Zb} : Takes X (upW X.K X.mg Z xNo) := fun u s' x => by
  obtain ⟨a, B, sI, pins, σ, H, cls, d, e, I, nb, up, sky, na, os, ag, w⟩ := x
  obtain ⟨_, _, _, _, _, _, _, z⟩ := w
  exact z.elim

/-! ### a def's promise by data -/
abbrev FSp := List D → Sto → DQ → (Exc → Sto → Prop) → Prop
def lift (K : PySem.W.Frag) (mg : Str → Option Value) (sp : FSp) : Sp := fun vs H Q E => ∃ ds S P EP, RpL K mg H ds vs ∧ StO K mg S H ∧ sp ds S P EP ∧ Kt K mg S H P Q ∧ KtX K mg S H EP E
/-- x is a def of the text that keeps its promise -/
structure Callee (P : Program) (w : World) (K : PySem.W.Frag) (mg : Str → Option Value) (base : Heap) (k : Nat) (x : Str) (sp : FSp) : Prop where
  ex : ∃ (f : Addr) (fd : FuncData) (ps : List Str), mg x = some (.ref f) ∧ PySem.W.keepIn K (.ref f) = true ∧ Binds K fd ps [] ∧ FnG P w K mg base (L2.CX P w) k f fd ps (lift K mg sp)
def dFn (sp : FSp) (EX : EXn) (t : DA) : DE := fun ρ S Q => t ρ S fun ds S1 => sp ds S1 Q fun e S2 => EX e ρ S2
section
variable {X : Cx} {Z : Zb} {e : Expr} {es : List Expr} {t : DA} {x : Str} {p pos : Pos} {k : Nat} {sp : FSp} {EX : EXn}
theorem lift_run {Z : Zb} {EX : EXn} {σ : L2.St} {H H1 : Hp} {ρ : Nv} {S S1 : Sto} {P : DQ} {Q : VK} {ds : List D} {vs : List V} (r : RpS X.K X.mg H ρ σ) (s : StO X.K X.mg S H) (z : Tr Z.S Z.H S H) (kk : Kt X.K X.mg S H P Q) (t1 : Tr S H S1 H1) (s1 : StO X.K X.mg S1 H1) (rx : RpL X.K X.mg H1 ds vs)
    (h : sp ds S1 P fun e S2 => EX e ρ S2) : lift X.K X.mg sp vs H1 Q (WE (upW X.K X.mg Z EX) σ) :=
  ⟨ds, S1, P, _, rx, s1, h, kk.at t1, fun e S2 cls d H2 t2 s2 re he => ⟨e, ρ, S2, (t1.trans t2).rpS s r, s2, z.trans (t1.trans t2), re, he⟩⟩
theorem s_fn (C : Callee X.prog X.w X.K X.mg X.base k x sp) (hr : RoomG k X.A) (tk : Takes X (upW X.K X.mg Z EX)) (hg : Gl X x) (ha : SA X Z (e :: es) t) (hdb : (x == ("__debug__" : Str)) = false)
    (he : starEach (e :: es) X.env = (false, eval e X.env) :: starEach es X.env) (hpl : (backTo pos (starEach es X.env)).any (·.1) = false) : SE X Z (.Call (.Name x p) (e :: es) [] pos) (dFn sp EX t) := by
  obtain ⟨f, fd, ps, hm, hk, hb, F⟩ := C.ex
  refine ⟨fun pins s σ H Q I ⟨ρ, S, P, r, st, z, h, kk⟩ => ?_⟩
  refine wpAny_Call_Name_kw (ld_glob I hg hm ?_ hdb)
  refine PySem.W.callWith_K (h₀ := X.base) I.ok.mod.kin hk (thn (ha.run pos pins s σ H (fun vs H1 => lift X.K X.mg sp vs H1 Q (WE (upW X.K X.mg Z EX) σ)) I ⟨ρ, S, _, r, st, z, h, fun ds S1 vs H1 t1 s1 rx h1 => lift_run r st z kk t1 s1 rx h1⟩) fun us s1 ⟨vs, H1, I1, rv, q⟩ => ⟨I1.kIn, ?_⟩) he hpl
  exact run_fnG F hr hb (passAt tk σ) I1 rv q
theorem s_fn0 (C : Callee X.prog X.w X.K X.mg X.base k x sp) (hr : RoomG k X.A) (tk : Takes X (upW X.K X.mg Z EX)) (hg : Gl X x) (hdb : (x == ("__debug__" : Str)) = false) : SE X Z (.Call (.Name x p) [] [] pos) (dFn sp EX dNil) := by
  obtain ⟨f, fd, ps, hm, hk, hb, F⟩ := C.ex
  refine ⟨fun pins s σ H Q I ⟨ρ, S, P, r, st, z, h, kk⟩ => ?_⟩
  refine wpAny_Call_Name_kw (ld_glob I hg hm ?_ hdb)
  exact PySem.W.callWith_K0 I.kIn hk (run_fnG (us := []) F hr hb (passAt tk σ) I .nil (lift_run r st z kk (Tr.refl _ _) st .nil h))
/-- a call of a local name that holds one of the defs of T -/
def dFnV (T : Str → Option FSp) (i : Nat) (EX : EXn) (t : DA) : DE := fun ρ S Q => ∃ y sp, ρ[i]? = some (some (.fn y)) ∧ T y = some sp ∧ t ρ S fun ds S1 => sp ds S1 Q fun e S2 => EX e ρ S2
theorem s_fnV {T : Str → Option FSp} {i : Nat} (C : ∀ y sp, T y = some sp → Callee X.prog X.w X.K X.mg X.base k y sp) (hr : RoomG k X.A) (tk : Takes X (upW X.K X.mg Z EX)) (hN : X.N[i]? = some x) (hv : Vis X.env.scope x) (ha : SA X Z (e :: es) t) (hdb : (x == ("__debug__" : Str)) = false) (hcd : (x == ("__classdict__" : Str)) = false)
    (he : starEach (e :: es) X.env = (false, eval e X.env) :: starEach es X.env) (hpl : (backTo pos (starEach es X.env)).any (·.1) = false) : SE X Z (.Call (.Name x p) (e :: es) [] pos) (dFnV T i EX t) := by
  refine ⟨fun pins s σ H Q I ⟨ρ, S, P, r, st, z, ⟨y, sp, hy, hT, h⟩, kk⟩ => ?_⟩
  obtain ⟨f, fd, ps, hm, hk, hb, F⟩ := (C y sp hT).ex
  obtain ⟨v, hv1, rv⟩ := r.get i _ hy
  refine wpAny_Call_Name_kw (thn ((pe_var (pos := p) hN hv hdb hcd).run pins s σ H (fun v' H1 => v' = v ∧ H1 = H) I ⟨v, hv1, rfl, rfl⟩) fun u s1 ⟨v', H1, I1, r1, q1⟩ => ?_)
  obtain ⟨rfl, rfl⟩ := q1
  cases rv with
  | fn hm' =>
    rw [hm] at hm'
    cases hm'
    cases r1
    refine PySem.W.callWith_K (h₀ := X.base) I.ok.mod.kin hk (thn (ha.run pos pins s1 σ _ (fun vs H1 => lift X.K X.mg sp vs H1 Q (WE (upW X.K X.mg Z EX) σ)) I1 ⟨ρ, S, _, r, st, z, h, fun ds S1 vs H1 t1 s1 rx h1 => lift_run r st z kk t1 s1 rx h1⟩) fun us s1 ⟨vs, H1, I1, rv, q⟩ => ⟨I1.kIn, ?_⟩) he hpl
    exact run_fnG F hr hb (passAt tk σ) I1 rv q
end
/-! ### a def keeps its promise -/
def startD (n : Nat) (ds : List D) : Nv := ds.map some ++ List.replicate (n - ds.length) none
theorem rpS_start {K : PySem.W.Frag} {mg : Str → Option Value} {H : Hp} {ds : List D} {vs : List V} (r : RpL K mg H ds vs) (N : List Str) : RpS K mg H (startD N.length ds) (L2.start N vs) := by
  have hl := r.length
  refine ⟨by unfold startD L2.start; simp [hl], fun i d e => ?_⟩
  unfold startD at e
  by_cases hi : i < ds.length
  · rw [List.getElem?_append_left (by simpa using hi), List.getElem?_map] at e
    cases e2 : ds[i]? with
    | none => rw [e2] at e; cases e
    | some d' =>
      rw [e2] at e
      cases e
      obtain ⟨v, h1, h2⟩ := r.get e2
      refine ⟨v, ?_, h2⟩
      unfold L2.start
      rw [List.getElem?_append_left (by rw [List.length_map]; omega), List.getElem?_map, h1]; rfl
  · rw [List.getElem?_append_right (by simpa using hi)] at e
    rw [List.getElem?_replicate] at e
    split at e <;> cases e
section
variable {P : Program} {w : World} {K : PySem.W.Frag} {mg : Str → Option Value} {base : Heap}
/-- the context of a def's body -/
abbrev cxD (P : Program) (w : World) (K : PySem.W.Frag) (mg : Str → Option Value) (base : Heap) (N : List Str) (qual : Str) (st : Stmt) (f : Addr) (cdv : Value) (A : Around) (outer : List Env) (s : Shared) (H : Hp) (E : XK) : Cx :=
  cxOf (L2.CX P w) P w K mg base N qual (defScope st) f cdv A outer s H E
theorem callee_of {x qual : Str} {st : Stmt} {f : Addr} {fd : FuncData} {N ps : List Str} {k : Nat} {sp : FSp} {t : (Exc → Sto → Prop) → DS} (F : Fun K x qual st f fd) (hm : mg x = some (.ref f)) (S : FnScope N ps (defScope st)) (hb : Binds K fd ps [])
    (len : ∀ ds S P EP, sp ds S P EP → ds.length = ps.length)
    (hbody : ∀ (cdv : Value) (A : Around) (outer : List Env) (s : Shared) (H : Hp) (E : XK) (Z : Zb) (EP : Exc → Sto → Prop), RoomG k (A.deeper (envOfC qual (defScope st) s.heap.objs.size f cdv)) →
      Takes (cxD P w K mg base N qual st f cdv A outer s H E) (upW K mg Z fun e _ S' => EP e S') → SSs (cxD P w K mg base N qual st f cdv A outer s H E) Z (defBody st) (t EP))
    (pure : ∀ ds S Q EP, sp ds S Q EP → t EP { nx := fun _ S' => Q .non S', rt := Q } (startD N.length ds) S) : Callee P w K mg base (k + 1) x sp := by
  obtain ⟨⟨oc, od, kV, doc, pm, an, cdv, ct, osl, rfl, lk, hcd⟩, kp⟩ := F
  refine ⟨f, _, ps, hm, kp, hb, fnG_of lk hcd S (fun vs H Q E ⟨ds, S', P', EP, rl, st', h, _, _⟩ => by rw [← rl.length]; exact len _ _ _ _ h) fun A outer s H vs Q E hr ⟨ds, S', P', EP, rl, st', h, kk, kx⟩ => ?_⟩
  have tk : Takes (cxD P w K mg base N qual st f cdv A outer s H E) (upW K mg ⟨S', H⟩ fun e _ S' => EP e S') :=
    Takes.imp (L2.takes_of rfl rfl rfl rfl) fun cls d σ H2 ⟨e, ρ, S2, r2, s2, z2, re, he⟩ => kx e S2 cls d H2 z2 s2 re he
  refine ⟨_, hbody cdv A outer s H E ⟨S', H⟩ EP hr tk, ?_⟩
  refine ⟨startD N.length ds, S', _, rpS_start rl N, st', Tr.refl _ _, pure ds S' P' EP h, ⟨fun ρ' S2 σ' H' t' s' r' h' => kk _ _ _ _ t' s' .non h', kk, fun _ _ _ _ _ _ _ z => z.elim, fun _ _ _ _ _ _ _ z => z.elim⟩⟩
end
end DL

set_option Elab.async false
set_option linter.all false
set_option maxRecDepth 100000
set_option maxHeartbeats 4000000
namespace DL
open PySem PySem.Spec PyProof.Rows L2 RZ
/-! ### the law's own call, at the top -/
theorem lawG {P : Program} {w : World} {K : PySem.W.Frag} {mg mb : Str → Option Value} {k : Nat} {a : Addr} {x : Str} {sp : FSp} {s₁ : Shared} {vs : List Value} {ns : List Int} {fa : Addr}
    (KX : K.In s₁.heap) (hns : s₁.heap.Ns mainGlobals mg) (hb : s₁.heap.Ns builtinsNs mb) (hbb : ∀ x : Str, x ≠ "__name__" → mb x = bootBuiltins x) (hlim : s₁.heap.NoLimit) (hg : s₁.gens = #[])
    (ha : s₁.heap.get? a = some { cls := .type "list", data := .seq vs.toArray }) (hi : IntsAre vs ns) (hl : ns.length ≤ sizeLine) (hr : Room k callerA) (hfa : mg x = some (.ref fa))
    (F : ∀ base : Heap, K.In base → base.Ns mainGlobals mg → Callee P w K mg base k x sp)
    (hsp : ∀ S : Sto, sp [.lw (ns.map D.int)] S (fun d _ => d = .bl true) fun _ _ => False) :
    codeAny (model P w) callerA (.call (.ref fa) ⟨[.ref a], []⟩) (fun r s' => r = .ok (.ret (.bool true)) ∧ OldK s₁.heap s'.heap ∧ s'.os = s₁.os ∧ AllBare s'.gens) s₁ := by
  have rv := vals_ints hi
  have lenV := hi.length
  have core : ∀ H : Hp, Only H → FrzL K H a (ns.map V.int) → HOk P w H s₁.heap → (∀ b, H b ≠ none → b = a) → (H a ≠ none → K.lookup a = none) →
      codeAny (model P w) callerA (.call (.ref fa) ⟨[.ref a], []⟩) (fun r s' => r = .ok (.ret (.bool true)) ∧ OldK s₁.heap s'.heap ∧ s'.os = s₁.os ∧ AllBare s'.gens) s₁ := by
    intro H hO hS hok hA hK
    have base_of : ∀ {b : Addr} {o : Obj}, s₁.heap.get? b = some o → H b = none → (hidT s₁.heap H).get? b = some o := fun e n => hidT_get e n
    have isA : ∀ {b : Addr} {u : HO}, H b = some u → b = a := fun {b u} q => hA b (by rw [q]; simp)
    have noA : ∀ {b : Addr} {o : Obj} {es : Array DictEntry} {ep : Nat}, s₁.heap.get? b = some o → o.data = .dict es ep → H b = none := fun {b o es ep} e d => by
      cases q : H b with
      | none => rfl
      | some u =>
        rw [isA q, ha] at e; cases e
        cases (show Data.seq vs.toArray _ = Data.dict es ep from d)
    have nsK : ∀ {b : Addr} {m : Str → Option Value}, s₁.heap.Ns b m → (hidT s₁.heap H).Ns b m := fun {b m} ⟨o, es, ep, e, d, r⟩ => ⟨o, es, ep, base_of e (noA e d), d, r⟩
    have hKb : K.In (hidT s₁.heap H) := fun b o e => base_of (KX b o e) (by
      cases q : H b with
      | none => rfl
      | some u =>
        have e' := isA q
        subst e'
        rw [hK (by rw [q]; simp)] at e; cases e)
    have hM : Mod K mg (hidT s₁.heap H) := ⟨hKb, nsK hns, ⟨mb, nsK hb, hbb⟩, let ⟨mc, h1, h2⟩ := hlim; ⟨mc, nsK h1, h2⟩⟩
    have e0 : Env0 P w K mg (hidT s₁.heap H) callerA [] s₁ H := ⟨rfl, hM, fun b o e => of_hidT e, Nat.le_of_eq (hidT_size _ _), trivial, fun b hb => absurd (show b ∈ ([] : List Addr) from hb) (by simp), hok, .of_eq hg⟩
    obtain ⟨f, fd, ps, hm, hk, hbd, Fn⟩ := (F _ hKb (nsK hns)).ex
    rw [hfa] at hm
    cases hm
    have hsp' : lift K mg sp [.ref a] H (fun v _ => v = .bl true) fun _ _ _ => False :=
      ⟨[.lw (ns.map D.int)], fun _ => none, _, _, .one (.lw hS (RpL.of_ints ns)), (fun _ _ e => nomatch e), hsp _, fun d S' v H' t s r e => by
        have e' : d = .bl true := e
        subst e'; cases r; rfl, fun _ _ _ _ _ _ _ _ z => z⟩
    have hlen := Fn.len _ _ _ _ hsp'
    refine codeAny_mono (Fn.run callerA [] s₁ H ⟨[.ref a], []⟩ [.ref a] [.ref a] _ _ ⟨hr, rfl⟩ e0 (by
      have z := hbd s₁ [.ref a] KX (by simpa using hlen)
      simpa using z) (.cons rfl .nil) hsp') fun r s' h => ?_
    cases r with
    | error e =>
      obtain ⟨_, _, _, _, _, _, _, _, _, _, _, _, z⟩ := h
      exact z.elim
    | ok fl =>
      cases fl with
      | next => exact False.elim h
      | brk => exact False.elim h
      | cont => exact False.elim h
      | ret u =>
        obtain ⟨v, H', os, bare, un, hok', r', q⟩ := h
        have q' : v = .bl true := q
        subst q'
        obtain rfl : u = Value.bool true := r'
        refine ⟨rfl, OldK.of_keep fun b o e => ?_, os, bare⟩
        cases q : H b with
        | none => exact un.keep b o e q (by intro z; exact absurd (show b ∈ ([] : List Addr) from z) (by simp)) (by simp)
        | some u =>
          rcases hO b with z | ⟨ob, xs, z⟩
          · rw [q] at z; cases z
          · have z2 := un.frzs b ob _ z
            obtain ⟨e1, _⟩ := hok b _ z
            obtain ⟨e2, _⟩ := hok' b _ z2
            rw [e] at e1; cases e1
            exact e2
  cases hk : K.lookup a with
  | some o =>
    have e := KX a o hk
    rw [ha] at e
    cases e
    exact core (fun _ => none) (fun _ => .inl rfl) (.inr ⟨_, vs.toArray, _, hk, rfl, rfl, rfl, by rw [List.size_toArray, lenV]; exact hl, by simpa using rv⟩) (fun b u z => nomatch z) (fun b z => absurd rfl z) fun z => absurd rfl z
  | none =>
    have off : ∀ {b : Addr}, ¬ b = a → (if b = a then some (HO.frz { cls := .type "list", data := .seq vs.toArray } (.lst (ns.map V.int))) else none) = none := fun h => if_neg h
    refine core (fun b => if b = a then some (.frz { cls := .type "list", data := .seq vs.toArray } (.lst (ns.map V.int))) else none) (fun b => ?_) (.inl ⟨{ cls := .type "list", data := .seq vs.toArray }, if_pos rfl⟩) (fun b u z => ?_) (fun b z => ?_) fun _ => hk
    · by_cases hb : b = a
      · exact .inr ⟨_, _, if_pos hb⟩
      · exact .inl (off hb)
    · by_cases hb : b = a
      · have z' := (if_pos hb).symm.trans z
        cases z'
        subst hb
        exact ⟨ha, by rw [List.length_map]; exact hl, vs, _, rv, ha⟩
      · have z' := (off hb).symm.trans z
        cases z'
    · by_cases hb : b = a
      · exact hb
      · exact absurd (off hb) z
theorem walkG {l : PySem.W.OpenLaw} {n k : Nat} {q : Program} {loose : List Str} {XP : (Str → Option Value) → Heap → Prop} {YP : World → Heap → Prop} {d : DefRec} {K : Params → PySem.W.Frag} {sp : FSp}
    (hn : l.most = some n) (hn2 : n ≤ sizeLine) (hdf : d.params.defaults = []) (hr : Room k callerA)
    (hY : ∀ (w : World) (h : Heap), YP w h → (K w.params).In h)
    (F : ∀ (w : World) (mg : Str → Option Value) (h : Heap), (K w.params).In h → h.Ns mainGlobals mg →
        ∀ base : Heap, (K w.params).In base → base.Ns mainGlobals mg → Callee l.prog w (K w.params) mg base k d.name sp)
    (hsp : ∀ (ns : List Int), ns.length ≤ n → (∀ z ∈ ns, Builtin.Int.intBits z ≤ 1048576) → ∀ S : Sto, sp [.lw (ns.map D.int)] S (fun d _ => d = .bl true) fun _ _ => False) :
    PySem.W.WalkO q loose XP YP l.row.toRowW d [] (fun f vs => PySem.call f vs) := by
  refine Att.attach_callB hn hdf fun w s₀ s₁ mg mb fa o pm cd doc a vs ns G Y ho hd hcd hmg hobj hints hlen hbits hg => ?_
  have KX := hY w _ Y
  exact lawG KX G.T.g G.T.b G.T.builtins G.T.nolimit hg hobj hints (Nat.le_trans hlen hn2) hr hmg (F w mg _ KX G.T.g) fun S => hsp ns hlen hbits S
/-! ### repr of data -/
section
variable {X : Cx} {Z : Zb} {K : PySem.W.Frag} {mg : Str → Option Value}
def rReprD (K : PySem.W.Frag) : List V → Hp → VK → Prop := fun xs H Q => ∃ (a : Addr) (p : PyData), xs = [.ref a] ∧ Dp K H (.ref a) p ∧ p.showable = true ∧ p.hasDict = false ∧ p.depth ≤ 64 ∧ p.shown.length ≤ sizeLine ∧ Q (.str p.shown) H
theorem cr_reprD {k : Nat} (hr : RoomG k X.A) : CallR X (.builtin "repr") (rReprD X.K) := by
  intro pins s σ H xs us Q I r h
  obtain ⟨a, p, rfl, hd, h1, h2, h3, h4, q⟩ := h
  rw [Vals.ref1 r]
  obtain ⟨as, rd⟩ := Dp.reads I p (.ref a) (.ref a) hd rfl
  exact repr_of_reads' (h₀ := s.heap) rd h1 (fun z => by rw [h2] at z; cases z) hr.g (by have := hr.r.un; omega) (fun b o e => e) (fun h' u tk hk => ⟨.str _, H, I.kept hk, ⟨u, rfl⟩, q⟩) h4
def dRepr : DN := fun xs S Q => a1 xs fun x => (∃ ds, x = .tup ds ∨ ∃ a, x = .ref a) ∧ ∃ p, Dd S x p ∧ p.showable = true ∧ p.hasDict = false ∧ p.depth ≤ 64 ∧ p.shown.length ≤ sizeLine ∧ Q (.str p.shown) S
theorem repr_ok : OpN K mg (rReprD K) dRepr := by
  intro S H xs vs P Q s rx h k
  obtain ⟨x, v, rfl, rfl, r, ⟨ds, h0⟩, p, hd, h1, h2, h3, h4, hh⟩ := a1_of rx h
  have hp := hd.dp s r
  rcases h0 with rfl | ⟨a, rfl⟩
  · cases r with
    | tup sq rl => exact ⟨_, p, rfl, hp, h1, h2, h3, h4, k.now s (.str _) hh⟩
  · cases r
    exact ⟨_, p, rfl, hp, h1, h2, h3, h4, k.now s (.str _) hh⟩
end
end DL

set_option Elab.async false
set_option linter.all false
set_option maxRecDepth 100000
set_option maxHeartbeats 4000000
namespace DL
open PySem PySem.Spec PyProof.Rows L2 RZ
theorem RoomG.u64 {k : Nat} {A : Around} (r : RoomG k A) : A.units + 64 < cLine := r.r.units
theorem RoomG.u65 {k : Nat} {A : Around} (r : RoomG k A) : A.units + 65 < cLine := by have := r.r.un; omega
theorem RoomG.u1 {k : Nat} {A : Around} (r : RoomG k A) : A.units + 1 < cLine := by have := r.r.un; omega
section
variable {X : Cx} {Z : Zb} {K : PySem.W.Frag} {mg : Str → Option Value} {a b c : Expr} {pos : Pos}
def dI2 (f : Int → Int → Int) : D2 := fun x y S Q => match x, y with
  | .int i, .int j => Q (.int (f i j)) S
  | _, _ => False
theorem ipI_ok (f : Int → Int → Int) : Op2 K mg (ipI f) (dI2 f) := by
  intro S H x y v u P Q s rx ry h k
  cases rx <;> cases ry <;> first
    | exact h.elim
    | exact ⟨_, _, rfl, rfl, k.now s (.int _) h⟩
theorem ss_par3 {i j l : Nat} {x y w : Str} {t : DA} {px py pz pt : Pos} {kt k2 pt2} (hc : X.calm = true) (hN : X.N.Nodup) (hi : X.N[i]? = some x) (hj : X.N[j]? = some y) (hl : X.N[l]? = some w) (hij : i ≠ j) (hil : i ≠ l) (hjl : j ≠ l)
    (hx : X.env.scope.names.lookup x = some .local) (hy : X.env.scope.names.lookup y = some .local) (hz : X.env.scope.names.lookup w = some .local) (ha : SA X Z [a, b, c] t)
    (hw : swappedStores [.Tuple [.Name x px, .Name y py, .Name w pz] kt pt] (.Tuple [a, b, c] k2 pt2) X.env = pure (some [x, y, w]))
    (hs : swapsWithSole [.Tuple [.Name x px, .Name y py, .Name w pz] kt pt] (.Tuple [a, b, c] k2 pt2) pos.line X.env = pure false) :
    SS X Z (.Assign [.Tuple [.Name x px, .Name y py, .Name w pz] kt pt] (.Tuple [a, b, c] k2 pt2) pos) (dPar3 i j l t) := by
  refine psI (ps_par3 hc hN hi hj hl hij hil hjl hx hy hz ha hw hs) fun T σ H ⟨ρ, S, D, r, s, z, h, k⟩ => ?_
  refine ⟨ρ, S, _, r, s, z, h, fun ds S1 vs H1 t1 s1 rx h1 => ?_⟩
  obtain ⟨d1, d2, d3, rfl, h1⟩ : ∃ d1 d2 d3, ds = [d1, d2, d3] ∧ D.nx (((ρ.set i (some d1)).set j (some d2)).set l (some d3)) S1 := by
    split at h1
    · exact ⟨_, _, _, rfl, h1⟩
    · exact h1.elim
  cases rx with
  | cons r1 rx =>
    obtain ⟨v2, v3, rfl, r2, r3⟩ := rx.o2
    exact ⟨_, _, _, rfl, k.nx _ _ _ _ t1 s1 ((((t1.rpS s r).set r1 i).set r2 j).set r3 l) h1⟩
/-- what a def lets out -/
abbrev xF (EP : Exc → Sto → Prop) : EXn := fun e _ S => EP e S
/-! ### list(range(..)), tuple(range(..)) -/
theorem rg_rp {H : Hp} {a b : Int} : RpL K mg H (rngD a (b - a).toNat) (rgV a b) := by
  refine RpL.of_get (by unfold rngD rgV; simp) fun i d v e1 e2 => ?_
  unfold rngD at e1
  unfold rgV at e2
  rw [List.getElem?_map] at e1 e2
  cases e : (List.range (b - a).toNat)[i]? with
  | none => rw [e] at e1; cases e1
  | some j =>
    rw [e] at e1 e2
    cases e1; cases e2
    exact .int _
variable {ta tb : DE} {p p2 pos2 : Pos}
def dRg1 (ta : DE) : Nv → Sto → (Int → Int → Sto → Prop) → Prop := fun ρ S P => ta ρ S fun x S1 => ∃ n, x = .int n ∧ P 0 n S1
def dRg2 (ta tb : DE) : Nv → Sto → (Int → Int → Sto → Prop) → Prop := fun ρ S P => ta ρ S fun x S1 => tb ρ S1 fun y S2 => ∃ i j, x = .int i ∧ y = .int j ∧ P i j S2
def dLrg (t : Nv → Sto → (Int → Int → Sto → Prop) → Prop) : DE := fun ρ S Q => t ρ S fun a b S1 => RgOk a b ∧ ∀ p, S1 p = none → Q (.ref p) (up1 S1 p (.lst (rngD a (b - a).toNat)))
def dTrg (t : Nv → Sto → (Int → Int → Sto → Prop) → Prop) : DE := fun ρ S Q => t ρ S fun a b S1 => RgOk a b ∧ Q (.tup (rngD a (b - a).toNat)) S1
theorem s_lrng1 (hl : Gl X "list") (hlm : X.mg "list" = none) (hc : X.calm = true) (hg : Gl X "range") (hm : X.mg "range" = none) (ha : SE X Z a ta) (na : starEach [a] X.env = (false, eval a X.env) :: starEach [] X.env)
    (nr : starEach [.Call (.Name "range" p2) [a] [] pos2] X.env = (false, eval (.Call (.Name "range" p2) [a] [] pos2) X.env) :: starEach [] X.env) : SE X Z (.Call (.Name "list" p) [.Call (.Name "range" p2) [a] [] pos2] [] pos) (dLrg (dRg1 ta)) := by
  refine peI (pe_listRg hc hl hlm (prg_1 hg hm ha na) nr) fun σ H Q ⟨ρ, S, P, r, s, z, h, k⟩ => ?_
  refine ⟨ρ, S, _, r, s, z, h, fun x S1 v H1 t1 s1 rx ⟨n, e, ok, h1⟩ => ?_⟩
  subst e; cases rx
  exact ⟨n, rfl, ok, (k.at t1).newL s1 rg_rp h1⟩
theorem s_lrng2 (hl : Gl X "list") (hlm : X.mg "list" = none) (hc : X.calm = true) (hg : Gl X "range") (hm : X.mg "range" = none) (ha : SE X Z a ta) (hb : SE X Z b tb) (na : starEach [a, b] X.env = (false, eval a X.env) :: starEach [b] X.env) (nb : starEach [b] X.env = (false, eval b X.env) :: starEach [] X.env) (hp : (backTo pos2 (starEach [b] X.env)).any (·.1) = false)
    (nr : starEach [.Call (.Name "range" p2) [a, b] [] pos2] X.env = (false, eval (.Call (.Name "range" p2) [a, b] [] pos2) X.env) :: starEach [] X.env) : SE X Z (.Call (.Name "list" p) [.Call (.Name "range" p2) [a, b] [] pos2] [] pos) (dLrg (dRg2 ta tb)) := by
  refine peI (pe_listRg hc hl hlm (prg_2 hg hm ha hb na nb hp) nr) fun σ H Q ⟨ρ, S, P, r, s, z, h, k⟩ => ?_
  refine ⟨ρ, S, _, r, s, z, h, fun x S1 v H1 t1 s1 rx h1 => ?_⟩
  refine ⟨ρ, S1, _, t1.rpS s r, s1, z.trans t1, h1, fun y S2 u H2 t2 s2 ry ⟨i, j, e1, e2, ok, h2⟩ => ?_⟩
  subst e1 e2; cases rx; cases ry
  exact ⟨i, j, rfl, rfl, ok, (k.at (t1.trans t2)).newL s2 rg_rp h2⟩
theorem s_trng1 (hl : Gl X "tuple") (hlm : X.mg "tuple" = none) (hc : X.calm = true) (hg : Gl X "range") (hm : X.mg "range" = none) (ha : SE X Z a ta) (na : starEach [a] X.env = (false, eval a X.env) :: starEach [] X.env)
    (nr : starEach [.Call (.Name "range" p2) [a] [] pos2] X.env = (false, eval (.Call (.Name "range" p2) [a] [] pos2) X.env) :: starEach [] X.env) : SE X Z (.Call (.Name "tuple" p) [.Call (.Name "range" p2) [a] [] pos2] [] pos) (dTrg (dRg1 ta)) := by
  refine peI (pe_tupRg hc hl hlm (prg_1 hg hm ha na) nr) fun σ H Q ⟨ρ, S, P, r, s, z, h, k⟩ => ?_
  refine ⟨ρ, S, _, r, s, z, h, fun x S1 v H1 t1 s1 rx ⟨n, e, ok, h1⟩ => ?_⟩
  subst e; cases rx
  exact ⟨n, rfl, ok, (k.at t1).newT s1 rg_rp h1⟩
theorem s_trng2 (hl : Gl X "tuple") (hlm : X.mg "tuple" = none) (hc : X.calm = true) (hg : Gl X "range") (hm : X.mg "range" = none) (ha : SE X Z a ta) (hb : SE X Z b tb) (na : starEach [a, b] X.env = (false, eval a X.env) :: starEach [b] X.env) (nb : starEach [b] X.env = (false, eval b X.env) :: starEach [] X.env) (hp : (backTo pos2 (starEach [b] X.env)).any (·.1) = false)
    (nr : starEach [.Call (.Name "range" p2) [a, b] [] pos2] X.env = (false, eval (.Call (.Name "range" p2) [a, b] [] pos2) X.env) :: starEach [] X.env) : SE X Z (.Call (.Name "tuple" p) [.Call (.Name "range" p2) [a, b] [] pos2] [] pos) (dTrg (dRg2 ta tb)) := by
  refine peI (pe_tupRg hc hl hlm (prg_2 hg hm ha hb na nb hp) nr) fun σ H Q ⟨ρ, S, P, r, s, z, h, k⟩ => ?_
  refine ⟨ρ, S, _, r, s, z, h, fun x S1 v H1 t1 s1 rx h1 => ?_⟩
  refine ⟨ρ, S1, _, t1.rpS s r, s1, z.trans t1, h1, fun y S2 u H2 t2 s2 ry ⟨i, j, e1, e2, ok, h2⟩ => ?_⟩
  subst e1 e2; cases rx; cases ry
  exact ⟨i, j, rfl, rfl, ok, (k.at (t1.trans t2)).newT s2 rg_rp h2⟩
end
end DL
namespace DL
open PySem PySem.Spec PyProof.Rows L2 RZ
theorem Callee.mono {P : Program} {w : World} {K : PySem.W.Frag} {mg : Str → Option Value} {base : Heap} {j k : Nat} {x : Str} {sp : FSp} (C : Callee P w K mg base j x sp) (h : j ≤ k) : Callee P w K mg base k x sp := by
  obtain ⟨f, fd, ps, h1, h2, h3, F⟩ := C.ex
  exact ⟨f, fd, ps, h1, h2, h3, F.len, fun A outer s H args us vs Q E hr => F.run A outer s H args us vs Q E (hr.mono h)⟩
theorem Callee.imp {P : Program} {w : World} {K : PySem.W.Frag} {mg : Str → Option Value} {base : Heap} {k : Nat} {x : Str} {sp sp' : FSp} (C : Callee P w K mg base k x sp) (h : ∀ ds S Q EP, sp' ds S Q EP → sp ds S Q EP) : Callee P w K mg base k x sp' := by
  obtain ⟨f, fd, ps, h1, h2, h3, F⟩ := C.ex
  have l : ∀ vs H Q E, lift K mg sp' vs H Q E → lift K mg sp vs H Q E := fun vs H Q E ⟨ds, S, P, EP, a, b, c, d, e⟩ => ⟨ds, S, P, EP, a, b, h _ _ _ _ c, d, e⟩
  exact ⟨f, fd, ps, h1, h2, h3, fun vs H Q E q => F.len vs H Q E (l _ _ _ _ q), fun A outer s H args us vs Q E hr e0 hb hv hs => F.run A outer s H args us vs Q E hr e0 hb hv (l _ _ _ _ hs)⟩
end DL

set_option Elab.async false
set_option linter.all false
set_option maxRecDepth 100000
set_option maxHeartbeats 4000000
namespace DL
open PySem PySem.Spec PyProof.Rows L2 RZ
theorem walkGE {l : PySem.W.OpenLaw} {n k : Nat} {q : Program} {loose : List Str} {XP : (Str → Option Value) → Heap → Prop} {YP : World → Heap → Prop} {d : DefRec} {sp : FSp}
    (hn : l.most = some n) (hn2 : n ≤ sizeLine) (hdf : d.params.defaults = []) (hr : Room k callerA)
    (F : ∀ (w : World) (mg : Str → Option Value) (h : Heap), YP w h → h.Ns mainGlobals mg →
      ∃ (K : PySem.W.Frag), K.In h ∧ ∀ base : Heap, K.In base → base.Ns mainGlobals mg → Callee l.prog w K mg base k d.name sp)
    (hsp : ∀ (ns : List Int), ns.length ≤ n → (∀ z ∈ ns, Builtin.Int.intBits z ≤ 1048576) → ∀ S : Sto, sp [.lw (ns.map D.int)] S (fun d _ => d = .bl true) fun _ _ => False) :
    PySem.W.WalkO q loose XP YP l.row.toRowW d [] (fun f vs => PySem.call f vs) := by
  refine Att.attach_callB hn hdf fun w s₀ s₁ mg mb fa o pm cd doc a vs ns G Y ho hd hcd hmg hobj hints hlen hbits hg => ?_
  obtain ⟨K, KX, hF⟩ := F w mg _ Y G.T.g
  exact lawG KX G.T.g G.T.b G.T.builtins G.T.nolimit hg hobj hints (Nat.le_trans hlen hn2) hr hmg hF fun S => hsp ns hlen hbits S
/-- a def at the top, by its name -/
def dd (x : Str) (st : Stmt) : He.DefD := ⟨(x, none), x, x, defArgs st, defBody st, defScope st, [], []⟩
section
variable {K : PySem.W.Frag} {h : Heap} {mg : Str → Option Value} {fal : List He.Fa} {fnl : List He.DefD}
theorem txt_fn (X : K.In h) (G : h.Ns mainGlobals mg) (c : He.SaysD fal fnl K) (i j : Nat) {x : Str} {st : Stmt} (h1 : fal[i]? = some (.glo x)) (h2 : fnl[j]? = some (dd x st)) : ∃ (f : Addr) (fd : FuncData), mg x = some (.ref f) ∧ Fun K x x st f fd := by
  obtain ⟨fd, F⟩ := c.def_ j h2
  have e := He.glo_ok X G (c.fact i h1)
  exact ⟨_, fd, e, He5.fun_of F⟩
theorem txt_free (X : K.In h) (G : h.Ns mainGlobals mg) (c : He.SaysD fal fnl K) (i : Nat) {x : Str} (h1 : fal[i]? = some (.free x)) : mg x = none := He.free_ok X G (c.fact i h1)
theorem txt_int (X : K.In h) (G : h.Ns mainGlobals mg) (c : He.SaysD fal fnl K) (i : Nat) {x : Str} {n : Int} (h1 : fal[i]? = some (.int x n)) : ∃ u v, mg x = some u ∧ RelV v u ∧ ∀ H, Rp K mg H (.int n) v := by
  obtain ⟨t, e⟩ := He.int_ok X G (c.fact i h1)
  exact ⟨_, .int n, e, ⟨t, rfl⟩, fun H => .int n⟩
theorem txt_str (X : K.In h) (G : h.Ns mainGlobals mg) (c : He.SaysD fal fnl K) (i : Nat) {x z : Str} (h1 : fal[i]? = some (.str x z)) : ∃ u v, mg x = some u ∧ RelV v u ∧ ∀ H, Rp K mg H (.str z) v := by
  obtain ⟨t, e⟩ := He.str_ok X G (c.fact i h1)
  exact ⟨_, .str z, e, ⟨t, rfl⟩, fun H => .str z⟩
end
end DL

set_option Elab.async false
set_option linter.all false
set_option maxRecDepth 100000
set_option maxHeartbeats 4000000
/-! the readings by data, step by step: plain Lean, no program in sight -/
namespace DL
open PySem L2
/-! ### stores -/
def Ext (S S' : Sto) : Prop := ∀ a c, S a = some c → S' a = some c
theorem Ext.refl (S : Sto) : Ext S S := fun _ _ h => h
theorem Ext.trans {S S1 S2 : Sto} (a : Ext S S1) (b : Ext S1 S2) : Ext S S2 := fun p c h => b p c (a p c h)
theorem Ext.new {S : Sto} {p : Addr} {c : Cell} (h : S p = none) : Ext S (up1 S p c) := fun a c' e => by
  rw [up1_ne (fun z => by rw [z, h] at e; cases e)]; exact e
/-- all but what stands at a stays -/
def ExtB (a : Addr) (S S' : Sto) : Prop := ∀ b c, b ≠ a → S b = some c → S' b = some c
theorem ExtB.refl (a : Addr) (S : Sto) : ExtB a S S := fun _ _ _ h => h
theorem ExtB.trans {a : Addr} {S S1 S2 : Sto} (x : ExtB a S S1) (y : ExtB a S1 S2) : ExtB a S S2 := fun p c n h => y p c n (x p c n h)
theorem Ext.but {a : Addr} {S S' : Sto} (h : Ext S S') : ExtB a S S' := fun b c _ e => h b c e
theorem ExtB.wrote {a : Addr} {S : Sto} {c : Cell} : ExtB a S (up1 S a c) := fun b c' n e => by rw [up1_ne n]; exact e
theorem ne_cell {S : Sto} {a b : Addr} {c c' : Cell} (h : S a = some c) (h' : S b = some c') (n : c ≠ c') : a ≠ b := fun e => by
  subst e; rw [h] at h'; cases h'; exact n rfl
theorem ne_new {S : Sto} {a p : Addr} {c : Cell} (h : S a = some c) (n : S p = none) : a ≠ p := fun e => by subst e; rw [h] at n; cases n

/-! ### slots -/
def getV : Nv → Nat → (D → Prop) → Prop
  | some d :: _, 0, P => P d
  | _ :: r, i + 1, P => getV r i P
  | _, _, _ => False
theorem getV_get : ∀ {ρ : Nv} {i : Nat} {P : D → Prop}, getV ρ i P → ∃ d, ρ[i]? = some (some d) ∧ P d
  | some d :: _, 0, _, h => ⟨d, rfl, h⟩
  | none :: _, 0, _, h => h.elim
  | [], 0, _, h => h.elim
  | [], _ + 1, _, h => h.elim
  | some _ :: r, i + 1, P, h => by
    obtain ⟨d, e, q⟩ := getV_get (ρ := r) (i := i) (P := P) h
    exact ⟨d, by simpa using e, q⟩
  | none :: r, i + 1, P, h => by
    obtain ⟨d, e, q⟩ := getV_get (ρ := r) (i := i) (P := P) h
    exact ⟨d, by simpa using e, q⟩
theorem getV_of : ∀ {ρ : Nv} {i : Nat} {P : D → Prop} {d : D}, ρ[i]? = some (some d) → P d → getV ρ i P
  | some d :: _, 0, _, _, e, h => by simp at e; subst e; exact h
  | none :: _, 0, _, _, e, _ => by simp at e
  | [], _, _, _, e, _ => by simp at e
  | some _ :: r, i + 1, P, d, e, h => getV_of (ρ := r) (i := i) (P := P) (d := d) (by simpa using e) h
  | none :: r, i + 1, P, d, e, h => getV_of (ρ := r) (i := i) (P := P) (d := d) (by simpa using e) h
theorem getV_0 {d : D} {r : Nv} {P : D → Prop} : getV (some d :: r) 0 P = P d := rfl
theorem getV_s {o : Option D} {r : Nv} {i : Nat} {P : D → Prop} : getV (o :: r) (i + 1) P = getV r i P := by cases o <;> rfl
theorem set_0 {α : Type} {x y : α} {r : List α} : (x :: r).set 0 y = y :: r := rfl
theorem set_s {α : Type} {x y : α} {r : List α} {i : Nat} : (x :: r).set (i + 1) y = x :: r.set i y := rfl
theorem startD_nil {n : Nat} : startD n [] = List.replicate n none := rfl
theorem startD_cons {n : Nat} {d : D} {ds : List D} : startD (n + 1) (d :: ds) = some d :: startD n ds := by
  unfold startD
  simp only [List.map_cons, List.cons_append, List.length_cons, Nat.reduceSubDiff, Nat.add_sub_add_right]
theorem rep_0 {α : Type} {x : α} : List.replicate 0 x = [] := rfl
theorem rep_s {α : Type} {x : α} {n : Nat} : List.replicate (n + 1) x = x :: List.replicate n x := rfl
theorem wipe_nil {ρ : Nv} : wipeD ρ [] = ρ := rfl
theorem wipe_cons {ρ : Nv} {v : Nat} {vs : List Nat} : wipeD ρ (v :: vs) = (wipeD ρ vs).set v none := rfl
/-- a truth is awaited -/
def isB (x : D) (P : Bool → Prop) : Prop := match x with
  | .bl k => P k
  | _ => False
def isN (x : D) (P : Int → Prop) : Prop := match x with
  | .int k => P k
  | _ => False
theorem isB_of {x : D} {P : Bool → Prop} (h : isB x P) : ∃ k, x = .bl k ∧ P k := by cases x <;> first | exact h.elim | exact ⟨_, rfl, h⟩
theorem isB_eq {x : D} {P : Bool → Prop} : (∃ k, x = .bl k ∧ P k) = isB x P := by
  apply propext
  exact ⟨fun ⟨k, e, h⟩ => by subst e; exact h, isB_of⟩
theorem isN_eq {x : D} {P : Int → Prop} : (∃ k, x = .int k ∧ P k) = isN x P := by
  apply propext
  refine ⟨fun ⟨k, e, h⟩ => by subst e; exact h, fun h => ?_⟩
  cases x <;> first | exact h.elim | exact ⟨_, rfl, h⟩
theorem isB_bl {b : Bool} {P : Bool → Prop} : isB (.bl b) P = P b := rfl
theorem isN_int {i : Int} {P : Int → Prop} : isN (.int i) P = P i := rfl
/-- the list at a -/
def lstAt (S : Sto) (a : Addr) (P : List D → Prop) : Prop := match S a with
  | some (.lst ds) => P ds
  | _ => False
theorem lstAt_of {S : Sto} {a : Addr} {ds : List D} {P : List D → Prop} (h : S a = some (.lst ds)) (p : P ds) : lstAt S a P := by
  unfold lstAt; rw [h]; exact p
theorem lstAt_inv {S : Sto} {a : Addr} {P : List D → Prop} (h : lstAt S a P) : ∃ ds, S a = some (.lst ds) ∧ P ds := by
  unfold lstAt at h
  cases e : S a with
  | none => rw [e] at h; exact False.elim h
  | some c =>
    rw [e] at h
    cases c with
    | lst ds => exact ⟨ds, rfl, h⟩
theorem lstAt_eq {S : Sto} {a : Addr} {P : List D → Prop} : (∃ ds, S a = some (.lst ds) ∧ P ds) = lstAt S a P := propext ⟨fun ⟨_, h, p⟩ => lstAt_of h p, lstAt_inv⟩
theorem lstAt_known {S : Sto} {a : Addr} {ds : List D} {P : List D → Prop} (h : S a = some (.lst ds)) : lstAt S a P = P ds := by
  unfold lstAt; rw [h]
def someD {α : Type} (o : Option α) (P : α → Prop) : Prop := match o with
  | some d => P d
  | none => False
theorem someD_some {α : Type} {d : α} {P : α → Prop} : someD (some d) P = P d := rfl
theorem someD_of {α : Type} {o : Option α} {d : α} {P : α → Prop} (h : o = some d) (p : P d) : someD o P := by rw [h]; exact p
theorem someD_eq {α : Type} {o : Option α} {P : α → Prop} : (∃ d, o = some d ∧ P d) = someD o P := by
  apply propext
  cases o with
  | none => exact ⟨fun ⟨_, h, _⟩ => (nomatch h), fun h => False.elim h⟩
  | some d => exact ⟨fun ⟨_, h, p⟩ => by cases h; exact p, fun p => ⟨d, rfl, p⟩⟩
theorem at0 {α : Type} {x : α} {xs : List α} : atI (x :: xs) 0 = some x := by unfold atI ixN; simp
theorem at1 {α : Type} {x y : α} {xs : List α} : atI (x :: y :: xs) 1 = some y := by
  unfold atI ixN
  rw [if_pos (by decide), if_pos (by simp; omega)]; rfl
theorem at2 {α : Type} {x y z : α} {xs : List α} : atI (x :: y :: z :: xs) 2 = some z := by
  unfold atI ixN
  rw [if_pos (by decide), if_pos (by simp; omega)]; rfl
theorem at3 {α : Type} {x y z w : α} {xs : List α} : atI (x :: y :: z :: w :: xs) 3 = some w := by
  unfold atI ixN
  rw [if_pos (by decide), if_pos (by simp; omega)]; rfl
theorem at4 {α : Type} {x y z w v : α} {xs : List α} : atI (x :: y :: z :: w :: v :: xs) 4 = some v := by
  unfold atI ixN
  rw [if_pos (by decide), if_pos (by simp; omega)]; rfl
theorem at5 {α : Type} {x y z w v u : α} {xs : List α} : atI (x :: y :: z :: w :: v :: u :: xs) 5 = some u := by
  unfold atI ixN
  rw [if_pos (by decide), if_pos (by simp; omega)]; rfl
theorem atn {α : Type} {xs : List α} {n : Nat} {x : α} (h : xs[n]? = some x) : atI xs (n : Int) = some x := by
  have hl := (List.getElem?_eq_some_iff.mp h).1
  unfold atI ixN
  rw [if_pos (by omega), if_pos (by omega)]
  simpa using h
theorem ixn {n k : Nat} (h : k < n) : ixN n (k : Int) = some k := by
  unfold ixN
  rw [if_pos (by omega), if_pos (by omega)]; simp
theorem ix4_0 : ixN 4 0 = some 0 := rfl
theorem ix4_1 : ixN 4 1 = some 1 := rfl
theorem ix4_2 : ixN 4 2 = some 2 := rfl
theorem ix4_3 : ixN 4 3 = some 3 := rfl
theorem len4 {α : Type} {x y z w : α} : [x, y, z, w].length = 4 := rfl
theorem up_up {S : Sto} {a : Addr} {c c' : Cell} : up1 (up1 S a c) a c' = up1 S a c' := by
  funext b
  by_cases h : b = a
  · subst h; rw [up1_same, up1_same]
  · rw [up1_ne h, up1_ne h, up1_ne h]
/-! ### the readings, applied -/
section
variable {ρ : Nv} {S : Sto} {Q : DQ} {QB : Bool → Sto → Prop} {QA : List D → Sto → Prop} {D' : DEnds} {ta tb tc : DE} {tA tB : DT} {t u : DS} {x y z : D} {xs ys : List D}
theorem ap_dC : dC x ρ S Q = Q x S := rfl
theorem ap_dVar {i : Nat} : dVar i ρ S Q = getV ρ i fun d => Q d S := by
  apply propext
  exact ⟨fun ⟨d, e, h⟩ => getV_of e h, fun h => by obtain ⟨d, e, q⟩ := getV_get h; exact ⟨d, e, q⟩⟩
theorem ap_dNil : dNil ρ S QA = QA [] S := rfl
theorem ap_dCons {v : DA} : dCons ta v ρ S QA = ta ρ S fun d S1 => v ρ S1 fun ds S2 => QA (d :: ds) S2 := rfl
theorem ap_dTup {v : DA} : dTup v ρ S Q = v ρ S fun ds S1 => ds.length ≤ sizeLine ∧ Q (.tup ds) S1 := rfl
theorem ap_dLst {v : DA} : dLst v ρ S Q = v ρ S fun ds S1 => ds.length ≤ sizeLine ∧ ∀ p, S1 p = none → Q (.ref p) (up1 S1 p (.lst ds)) := rfl
theorem ap_dOp {o : D2} : dOp o ta tb ρ S Q = ta ρ S fun x S1 => tb ρ S1 fun y S2 => o x y S2 Q := rfl
theorem ap_dB : dB ta ρ S QB = ta ρ S fun x S1 => isB x fun k => QB k S1 := by unfold dB; simp only [isB_eq]
theorem ap_dChain {o o' : D2} : dChain o o' ta tb tc ρ S Q = ta ρ S fun x S1 => tb ρ S1 fun y S2 => o x y S2 fun z S3 => isB z fun k => if k = true then tc ρ S3 fun w S4 => o' y w S4 Q else Q (.bl false) S3 := by unfold dChain; simp only [isB_eq]
theorem ap_dTru : dTru ta ρ S QB = ta ρ S fun x S1 => truD x S1 QB := rfl
theorem ap_dAndT : dAndT tA tB ρ S QB = tA ρ S fun c S1 => if c = true then tB ρ S1 QB else QB false S1 := rfl
theorem ap_dOrT : dOrT tA tB ρ S QB = tA ρ S fun c S1 => if c = true then QB true S1 else tB ρ S1 QB := rfl
theorem ap_dNotT : dNotT tA ρ S QB = tA ρ S fun c S1 => QB (!c) S1 := rfl
theorem ap_dAndV : dAndV ta tb ρ S Q = ta ρ S fun x S1 => truD x S1 fun c S2 => if c = true then tb ρ S2 Q else Q x S2 := rfl
theorem ap_dOrV : dOrV ta tb ρ S Q = ta ρ S fun x S1 => truD x S1 fun c S2 => if c = true then Q x S2 else tb ρ S2 Q := rfl
theorem ap_dNotV : dNotV ta ρ S Q = ta ρ S fun x S1 => truD x S1 fun c S2 => Q (.bl (!c)) S2 := rfl
theorem ap_dIf : dIf tA ta tb ρ S Q = tA ρ S fun c S1 => if c = true then ta ρ S1 Q else tb ρ S1 Q := rfl
theorem ap_dUn {o : D1} : dUn o ta ρ S Q = ta ρ S fun x S1 => o x S1 Q := rfl
theorem ap_dCall {o : DN} {v : DA} : dCall o v ρ S Q = v ρ S fun xs S1 => o xs S1 Q := rfl
theorem ap_dNoPart {P : Option Int → Sto → Prop} : dNoPart ρ S P = P none S := rfl
theorem ap_dPart {P : Option Int → Sto → Prop} : dPart ta ρ S P = ta ρ S fun x S1 => isN x fun i => P (some i) S1 := by unfold dPart; simp only [isN_eq]
theorem ap_dSl {o : DSl} {tl th : DO} : dSl o ta tl th ρ S Q = ta ρ S fun x S1 => tl ρ S1 fun l S2 => th ρ S2 fun u S3 => o x l u S3 Q := rfl
theorem ap_dBM {T : String} {o : DM} {v : DA} : dBM T o ta v ρ S Q = ta ρ S fun x S1 => tyD T x S1 ∧ v ρ S1 fun xs S2 => o x xs S2 Q := rfl
theorem ap_dBM0 {T : String} {o : DM} : dBM0 T o ta ρ S Q = ta ρ S fun x S1 => tyD T x S1 ∧ o x [] S1 Q := rfl
theorem ap_dFn {sp : FSp} {EX : EXn} {v : DA} : dFn sp EX v ρ S Q = v ρ S fun ds S1 => sp ds S1 Q fun e S2 => EX e ρ S2 := rfl
theorem ap_dLc {wi : DI} {g : DG} {tt : DT} {te : DE} {vs : List Nat} : dLc wi g tt te vs ρ S Q = wi ρ S fun its chk S1 => its.length ≤ sizeLine ∧ lcD chk g tt te (wipeD ρ vs) its S1 fun ds S2 => ∀ p, S2 p = none → Q (.ref p) (up1 S2 p (.lst ds)) := rfl
theorem ap_dYes : dYes ρ S QB = QB true S := rfl
theorem ap_dRg1 {P : Int → Int → Sto → Prop} : dRg1 ta ρ S P = ta ρ S fun x S1 => isN x fun n => P 0 n S1 := by unfold dRg1; simp only [isN_eq]
theorem ap_dRg2 {P : Int → Int → Sto → Prop} : dRg2 ta tb ρ S P = ta ρ S fun x S1 => tb ρ S1 fun y S2 => isN x fun i => isN y fun j => P i j S2 := by
  unfold dRg2
  have : ∀ (x y : D) (S2 : Sto), (∃ i j, x = .int i ∧ y = .int j ∧ P i j S2) = isN x fun i => isN y fun j => P i j S2 := fun x y S2 => by
    rw [← isN_eq]
    apply propext
    exact ⟨fun ⟨i, j, a, b, c⟩ => ⟨i, a, by rw [b]; exact c⟩, fun ⟨i, a, h⟩ => by rw [← isN_eq] at h; obtain ⟨j, b, c⟩ := h; exact ⟨i, j, a, b, c⟩⟩
  simp only [this]
theorem ap_dLrg {w : Nv → Sto → (Int → Int → Sto → Prop) → Prop} : dLrg w ρ S Q = w ρ S fun a b S1 => RgOk a b ∧ ∀ p, S1 p = none → Q (.ref p) (up1 S1 p (.lst (rngD a (b - a).toNat))) := rfl
theorem ap_dTrg {w : Nv → Sto → (Int → Int → Sto → Prop) → Prop} : dTrg w ρ S Q = w ρ S fun a b S1 => RgOk a b ∧ Q (.tup (rngD a (b - a).toNat)) S1 := rfl
theorem ap_iAny {P : List D → (Sto → Prop) → Sto → Prop} : iAny ta ρ S P = ta ρ S fun x S1 => sqD x S1 fun ds chk => P ds chk S1 := by
  unfold iAny
  refine congrArg (ta ρ S) (funext fun x => funext fun S1 => ?_)
  cases x <;> rfl
theorem ap_iRng1 {v : DA} {P : List D → (Sto → Prop) → Sto → Prop} : iRng1 v ρ S P = v ρ S (rng1P P) := rfl
theorem ap_iRng2 {v : DA} {P : List D → (Sto → Prop) → Sto → Prop} : iRng2 v ρ S P = v ρ S (rng2P P) := rfl
theorem ap_iRng3 {v : DA} {P : List D → (Sto → Prop) → Sto → Prop} : iRng3 v ρ S P = v ρ S (rng3P P) := rfl
theorem ap_rng1P {P : List D → (Sto → Prop) → Sto → Prop} {j : Int} : rng1P P [.int j] S = (-(2 ^ 62) ≤ j ∧ j < 2 ^ 62 ∧ P (rngD 0 j.toNat) (fun _ => True) S) := rfl
theorem ap_rng2P {P : List D → (Sto → Prop) → Sto → Prop} {i j : Int} : rng2P P [.int i, .int j] S = ((-(2 ^ 62) ≤ i ∧ i < 2 ^ 62 ∧ -(2 ^ 62) ≤ j ∧ j < 2 ^ 62) ∧ P (rngD i (j - i).toNat) (fun _ => True) S) := rfl
theorem ap_rng3P {P : List D → (Sto → Prop) → Sto → Prop} {i j c : Int} : rng3P P [.int i, .int j, .int c] S = (c = -1 ∧ (-(2 ^ 62) ≤ i ∧ i < 2 ^ 62 ∧ -(2 ^ 62) ≤ j ∧ j < 2 ^ 62) ∧ P ((List.range (i - j).toNat).map fun k => D.int (i - (k : Nat))) (fun _ => True) S) := rfl
theorem ap_iZip {v : DA} {P : List D → (Sto → Prop) → Sto → Prop} : iZip v ρ S P = dZ2 v ρ S fun xs ys chk S1 => P (zipD xs ys) chk S1 := rfl
theorem ap_dLzip {v : DA} : dLzip v ρ S Q = dZ2 v ρ S fun xs ys _ S1 => ∀ p, S1 p = none → Q (.ref p) (up1 S1 p (.lst (zipD xs ys))) := rfl
theorem ap_dZ2 {v : DA} {P : List D → List D → (Sto → Prop) → Sto → Prop} : dZ2 v ρ S P = v ρ S fun ds S1 => a2 ds fun x y => sqD x S1 fun xs c1 => sqD y S1 fun ys c2 => P xs ys (fun S' => c1 S' ∧ c2 S') S1 := by
  unfold dZ2 a2; rfl
theorem ap_iEnm {v : DA} {P : List D → (Sto → Prop) → Sto → Prop} : iEnm v ρ S P = v ρ S fun ds S1 => a1 ds fun x => sqD x S1 fun its chk => P (enumD 0 its) chk S1 := by
  unfold iEnm a1; rfl
theorem ap_a1 {P : D → Prop} : a1 [x] P = P x := rfl
theorem ap_a2 {P : D → D → Prop} : a2 [x, y] P = P x y := rfl
theorem ap_sqT {P : List D → (Sto → Prop) → Prop} : sqD (.tup xs) S P = P xs (fun _ => True) := rfl
theorem ap_sqR {a : Addr} {P : List D → (Sto → Prop) → Prop} : sqD (.ref a) S P = lstAt S a fun ds => P ds (fun S' => S' a = some (.lst ds)) := lstAt_eq
/-! statements -/
theorem ap_dNext : dNext D' ρ S = D'.nx ρ S := rfl
theorem ap_dSeq : dSeq t u D' ρ S = t { D' with nx := u D' } ρ S := rfl
theorem ap_dBreak : dBreak D' ρ S = D'.bk ρ S := rfl
theorem ap_dCont : dCont D' ρ S = D'.ct ρ S := rfl
theorem ap_dDrop : dDrop ta D' ρ S = ta ρ S fun _ S1 => D'.nx ρ S1 := rfl
theorem ap_dRet : dRet ta D' ρ S = ta ρ S D'.rt := rfl
theorem ap_dRetN : dRetN D' ρ S = D'.rt .non S := rfl
theorem ap_dIfS {c : DT} : dIfS c t u D' ρ S = c ρ S fun b S1 => if b = true then t D' ρ S1 else u D' ρ S1 := rfl
theorem ap_dAsg {g : DG} : dAsg ta g D' ρ S = ta ρ S fun x S1 => g x ρ S1 D'.nx := rfl
theorem ap_dPar {i j : Nat} {v : DA} : dPar i j v D' ρ S = v ρ S fun ds S1 => a2 ds fun x y => D'.nx ((ρ.set i (some x)).set j (some y)) S1 := by unfold dPar a2; rfl
def a3 (xs : List D) (P : D → D → D → Prop) : Prop := match xs with
  | [x, y, z] => P x y z
  | _ => False
theorem ap_a3 {P : D → D → D → Prop} : a3 [x, y, z] P = P x y z := rfl
theorem ap_dPar3 {i j l : Nat} {v : DA} : dPar3 i j l v D' ρ S = v ρ S fun ds S1 => a3 ds fun x y z => D'.nx (((ρ.set i (some x)).set j (some y)).set l (some z)) S1 := by unfold dPar3 a3; rfl
theorem ap_dAug {o : D2} {i : Nat} : dAug o i ta D' ρ S = getV ρ i fun x => ta ρ S fun y S1 => o x y S1 fun z S2 => D'.nx (ρ.set i (some z)) S2 := by
  apply propext
  exact ⟨fun ⟨d, e, h⟩ => getV_of e h, fun h => by obtain ⟨d, e, q⟩ := getV_get h; exact ⟨d, e, q⟩⟩
theorem ap_dAugS {og op : D2} {os : D3} : dAugS og op os ta tb tc D' ρ S = ta ρ S fun x S1 => tb ρ S1 fun y S2 => og x y S2 fun z S3 => tc ρ S3 fun w S4 => op z w S4 fun n S5 => os x y n S5 fun S6 => D'.nx ρ S6 := rfl
theorem ap_dFor {wi : DI} {g : DG} : dFor wi g t D' ρ S = wi ρ S fun its chk S1 => forD chk g t D' its ρ S1 := rfl
theorem ap_gSet {i : Nat} {QN : Nv → Sto → Prop} : gSet i x ρ S QN = QN (ρ.set i (some x)) S := rfl
theorem ap_gTup {n : Nat} {w : DGs} {QN : Nv → Sto → Prop} : gTup n w (.tup xs) ρ S QN = (xs.length = n ∧ w xs ρ S QN) := rfl
theorem ap_gNil {QN : Nv → Sto → Prop} : gNil [] ρ S QN = QN ρ S := by unfold gNil; simp
theorem ap_gCons {g : DG} {w : DGs} {QN : Nv → Sto → Prop} : gCons g w (x :: xs) ρ S QN = g x ρ S fun ρ' S' => w xs ρ' S' QN := rfl
theorem ap_gSub {o : D3} {QN : Nv → Sto → Prop} : gSub o ta tb z ρ S QN = ta ρ S fun x S1 => tb ρ S1 fun y S2 => o x y z S2 fun S3 => QN ρ S3 := rfl
/-! values -/
theorem tr_non : truD .non S QB = QB false S := rfl
theorem tr_bl {b : Bool} : truD (.bl b) S QB = QB b S := rfl
theorem tr_int {i : Int} : truD (.int i) S QB = QB (i != 0) S := rfl
theorem tr_str {z : Str} : truD (.str z) S QB = (z.length ≤ sizeLine ∧ QB ((z.length : Int) != 0) S) := rfl
theorem tr_tup : truD (.tup xs) S QB = QB (!xs.isEmpty) S := rfl
theorem tr_ref {a : Addr} : truD (.ref a) S QB = lstAt S a fun xs => QB (!xs.isEmpty) S := lstAt_eq
theorem ad_int {i j : Int} : dAdd (.int i) (.int j) S Q = Q (.int (i + j)) S := rfl
theorem ad_tup : dAdd (.tup xs) (.tup ys) S Q = (xs.length + ys.length ≤ sizeLine ∧ Q (.tup (xs ++ ys)) S) := rfl
theorem ad_ref {a b : Addr} : dAdd (.ref a) (.ref b) S Q = lstAt S a fun xs => lstAt S b fun ys => xs.length + ys.length ≤ sizeLine ∧ ∀ p, S p = none → Q (.ref p) (up1 S p (.lst (xs ++ ys))) := by
  simp only [← lstAt_eq]
  exact propext ⟨fun ⟨xs, ys, h, h', r⟩ => ⟨xs, h, ys, h', r⟩, fun ⟨xs, h, ys, h', r⟩ => ⟨xs, ys, h, h', r⟩⟩
theorem sb_int {i j : Int} : dSub (.int i) (.int j) S Q = Q (.int (i - j)) S := rfl
theorem mu_int {i j : Int} : dMul (.int i) (.int j) S Q = (CMulA i j ∧ Q (.int (i * j)) S) := rfl
theorem mu_tup {j : Int} : dMul (.tup xs) (.int j) S Q = (xs ≠ [] ∧ -(2 ^ 63) ≤ j ∧ j ≤ 1000 ∧ xs.length ≤ 1000 ∧ Q (.tup (List.replicate j.toNat xs).flatten) S) := rfl
theorem mu_ref {a : Addr} {j : Int} : dMul (.ref a) (.int j) S Q = lstAt S a fun xs => -(2 ^ 63) ≤ j ∧ j < 2 ^ 63 ∧ xs.length * j.toNat ≤ sizeLine ∧ ∀ p, S p = none → Q (.ref p) (up1 S p (.lst (List.replicate j.toNat xs).flatten)) := lstAt_eq
theorem fd_int {i j : Int} : dFdiv (.int i) (.int j) S Q = (CDivW i j ∧ Q (.int (i / j)) S) := rfl
theorem md_int {i j : Int} : dMod (.int i) (.int j) S Q = (0 < j ∧ Q (.int (i % j)) S) := rfl
theorem pw_int {i j : Int} : dPow (.int i) (.int j) S Q = (CPow i j ∧ Q (.int (i ^ j.toNat)) S) := rfl
theorem ng_int {i : Int} : dNeg (.int i) S Q = Q (.int (-i)) S := rfl
theorem i2_int {f : Int → Int → Int} {i j : Int} : dI2 f (.int i) (.int j) S Q = Q (.int (f i j)) S := rfl
theorem ci_int {f : Int → Int → Bool} {i j : Int} : dCmpI f (.int i) (.int j) S Q = Q (.bl (f i j)) S := rfl
theorem is_bl {n b c : Bool} : dIs n (.bl b) (.bl c) S Q = Q (.bl (if n then !decide (b = c) else decide (b = c))) S := rfl
theorem is_nn {n : Bool} : dIs n .non .non S Q = Q (.bl (!n)) S := rfl
theorem is_in {n : Bool} {i : Int} : dIs n (.int i) .non S Q = Q (.bl n) S := rfl
theorem is_tn {n : Bool} : dIs n (.tup xs) .non S Q = Q (.bl n) S := rfl
theorem is_rn {n : Bool} {a : Addr} : dIs n (.ref a) .non S Q = Q (.bl n) S := rfl
theorem is_sn {n : Bool} {a : Str} : dIs n (.str a) .non S Q = Q (.bl n) S := rfl
theorem ix_tup {i : Int} : dIx (.tup xs) (.int i) S Q = someD (atI xs i) fun d => Q d S := someD_eq
theorem ix_ref {a : Addr} {i : Int} : dIx (.ref a) (.int i) S Q = lstAt S a fun ds => someD (atI ds i) fun d => Q d S := by
  simp only [← lstAt_eq, ← someD_eq]
  exact propext ⟨fun ⟨ds, d, h, r⟩ => ⟨ds, h, d, r⟩, fun ⟨ds, h, d, r⟩ => ⟨ds, d, h, r⟩⟩
theorem ixl_ref {a : Addr} {i : Int} : dIxL (.ref a) (.int i) S Q = lstAt S a fun ds => someD (atI ds i) fun d => Q d S := by
  simp only [← lstAt_eq, ← someD_eq]
  exact propext ⟨fun ⟨ds, d, h, r⟩ => ⟨ds, h, d, r⟩, fun ⟨ds, h, d, r⟩ => ⟨ds, d, h, r⟩⟩
theorem sl_tup {lo hi : Option Int} : dSlc (.tup xs) lo hi S Q = Q (.tup (cutD xs lo hi)) S := rfl
theorem sl_lw {lo hi : Option Int} : dSlc (.lw xs) lo hi S Q = ∀ p, S p = none → Q (.ref p) (up1 S p (.lst (cutD xs lo hi))) := rfl
theorem sl_ref {a : Addr} {lo hi : Option Int} : dSlc (.ref a) lo hi S Q = lstAt S a fun ds => ∀ p, S p = none → Q (.ref p) (up1 S p (.lst (cutD ds lo hi))) := lstAt_eq
theorem st_ref {a : Addr} {i : Int} {P : Sto → Prop} : dSetL (.ref a) (.int i) x S P = lstAt S a fun ds => someD (ixN ds.length i) fun j => P (up1 S a (.lst (ds.set j x))) := by
  simp only [← lstAt_eq, ← someD_eq]
  exact propext ⟨fun ⟨ds, d, h, r⟩ => ⟨ds, h, d, r⟩, fun ⟨ds, h, d, r⟩ => ⟨ds, d, h, r⟩⟩
theorem ap_append {a : Addr} : dAppend (.ref a) [x] S Q = lstAt S a fun ds => ds.length < sizeLine ∧ Q .non (up1 S a (.lst (ds ++ [x]))) := lstAt_eq
theorem ap_extend {a b : Addr} : dExtend (.ref a) [.ref b] S Q = lstAt S a fun ds => lstAt S b fun es => ds.length + es.length ≤ sizeLine ∧ Q .non (up1 S a (.lst (ds ++ es))) := by
  simp only [← lstAt_eq]
  exact propext ⟨fun ⟨xs, ys, h, h', r⟩ => ⟨xs, h, ys, h', r⟩, fun ⟨xs, h, ys, h', r⟩ => ⟨xs, ys, h, h', r⟩⟩
theorem ap_popI {a : Addr} {i : Int} : dPopI (.ref a) [.int i] S Q = ∃ ds j y, S a = some (.lst ds) ∧ -(2 ^ 63) ≤ i ∧ i < 2 ^ 63 ∧ seqIndex? i ds.length = some j ∧ ds[j]? = some y ∧ Q y (up1 S a (.lst (ds.eraseIdx j))) := rfl
theorem ap_pop0 {a : Addr} : dPop0 (.ref a) [] S Q = ∃ ds y, S a = some (.lst ds) ∧ ds[ds.length - 1]? = some y ∧ Q y (up1 S a (.lst ds.dropLast)) := rfl
theorem ty_ref {a : Addr} : tyD "list" (.ref a) S = lstAt S a fun _ => True := by
  show ("list" = "list" ∧ ∃ ds, LA S a ds) = _
  rw [← lstAt_eq]
  exact propext ⟨fun ⟨_, ds, h⟩ => ⟨ds, h, trivial⟩, fun ⟨ds, h, _⟩ => ⟨rfl, ds, h⟩⟩
theorem ln_tup : dLen [.tup xs] S Q = Q (.int xs.length) S := rfl
theorem ln_ref {a : Addr} : dLen [.ref a] S Q = lstAt S a fun ds => Q (.int ds.length) S := lstAt_eq
theorem ab_int {i : Int} : dAbs [.int i] S Q = Q (.int (if i < 0 then -i else i)) S := rfl
theorem in_int {i : Int} : dInt [.int i] S Q = Q (.int i) S := rfl
theorem in_bl {b : Bool} : dInt [.bl b] S Q = Q (.int (if b then 1 else 0)) S := rfl
theorem mn_int {i j : Int} : dMin2 [.int i, .int j] S Q = Q (.int (if j < i then j else i)) S := rfl
theorem mx_int {i j : Int} : dMax2 [.int i, .int j] S Q = Q (.int (if j > i then j else i)) S := rfl
theorem sm_of {x : D} : dSum [x] S Q = sqD x S fun ds _ => ∃ ns : List Int, ds = ns.map D.int ∧ Q (.int ns.sum) S := rfl
theorem al_ref {a : Addr} : dAll [.ref a] S Q = ∃ bs : List Bool, LA S a (bs.map D.bl) ∧ Q (.bl (bs.all id)) S := rfl
theorem an_ref {a : Addr} : dAny [.ref a] S Q = ∃ bs : List Bool, LA S a (bs.map D.bl) ∧ Q (.bl (bs.any id)) S := rfl
theorem li_of {x : D} : dList1 [x] S Q = sqD x S fun ds _ => ∀ p, S p = none → Q (.ref p) (up1 S p (.lst ds)) := rfl
theorem tu_of {x : D} : dTuple1 [x] S Q = sqD x S fun ds _ => Q (.tup ds) S := rfl
theorem so_ref {a : Addr} : dSortI [.ref a] S Q = ∃ ns : List Int, LA S a (ns.map D.int) ∧ ∀ (ns' : List Int) (p : Addr), ns'.Perm ns → ns'.Pairwise (· ≤ ·) → S p = none → Q (.ref p) (up1 S p (.lst (ns'.map D.int))) := rfl
end
/-! ### types -/
/-- a value of a known kind -/
def Kn (S : Sto) (x : D) : Prop := tyN x S fun _ => True
/-- its type's name -/
def tyS : D → String
  | .non => "NoneType"
  | .bl _ => "bool"
  | .int _ => "int"
  | .str _ => "str"
  | .tup _ => "tuple"
  | .ref _ => "list"
  | _ => ""
theorem tyN_at {x : D} {S : Sto} {P : String → Prop} (k : Kn S x) : tyN x S P = P (tyS x) := by
  cases x <;> first
    | rfl
    | exact k.elim
    | (obtain ⟨h, _⟩ := (show (∃ ds, LA S _ ds) ∧ True from k)
       apply propext
       exact ⟨fun z => z.2, fun z => ⟨h, z⟩⟩)
def isI : D → Bool
  | .int _ => true
  | _ => false
def isT : D → Bool
  | .tup _ => true
  | _ => false
def isBl : D → Bool
  | .bl _ => true
  | _ => false
def isSt : D → Bool
  | .str _ => true
  | _ => false
def isL : D → Bool
  | .ref _ => true
  | _ => false
section
variable {S : Sto} {Q : DQ} {x : D}
theorem kit_int (k : Kn S x) : kitB (tyS x) "int" = some (isI x || isBl x) := by
  cases x with
  | non => exact (by decide +kernel : kitB "NoneType" "int" = some false)
  | bl _ => exact (by decide +kernel : kitB "bool" "int" = some true)
  | int _ => exact (by decide +kernel : kitB "int" "int" = some true)
  | str _ => exact (by decide +kernel : kitB "str" "int" = some false)
  | tup _ => exact (by decide +kernel : kitB "tuple" "int" = some false)
  | ref _ => exact (by decide +kernel : kitB "list" "int" = some false)
  | fn _ => exact k.elim
  | ty _ => exact k.elim
  | lw _ => exact k.elim
theorem kit_bool (k : Kn S x) : kitB (tyS x) "bool" = some (isBl x) := by
  cases x with
  | non => exact (by decide +kernel : kitB "NoneType" "bool" = some false)
  | bl _ => exact (by decide +kernel : kitB "bool" "bool" = some true)
  | int _ => exact (by decide +kernel : kitB "int" "bool" = some false)
  | str _ => exact (by decide +kernel : kitB "str" "bool" = some false)
  | tup _ => exact (by decide +kernel : kitB "tuple" "bool" = some false)
  | ref _ => exact (by decide +kernel : kitB "list" "bool" = some false)
  | fn _ => exact k.elim
  | ty _ => exact k.elim
  | lw _ => exact k.elim
theorem kit_str (k : Kn S x) : kitB (tyS x) "str" = some (isSt x) := by
  cases x with
  | non => exact (by decide +kernel : kitB "NoneType" "str" = some false)
  | bl _ => exact (by decide +kernel : kitB "bool" "str" = some false)
  | int _ => exact (by decide +kernel : kitB "int" "str" = some false)
  | str _ => exact (by decide +kernel : kitB "str" "str" = some true)
  | tup _ => exact (by decide +kernel : kitB "tuple" "str" = some false)
  | ref _ => exact (by decide +kernel : kitB "list" "str" = some false)
  | fn _ => exact k.elim
  | ty _ => exact k.elim
  | lw _ => exact k.elim
theorem kit_tuple (k : Kn S x) : kitB (tyS x) "tuple" = some (isT x) := by
  cases x with
  | non => exact (by decide +kernel : kitB "NoneType" "tuple" = some false)
  | bl _ => exact (by decide +kernel : kitB "bool" "tuple" = some false)
  | int _ => exact (by decide +kernel : kitB "int" "tuple" = some false)
  | str _ => exact (by decide +kernel : kitB "str" "tuple" = some false)
  | tup _ => exact (by decide +kernel : kitB "tuple" "tuple" = some true)
  | ref _ => exact (by decide +kernel : kitB "list" "tuple" = some false)
  | fn _ => exact k.elim
  | ty _ => exact k.elim
  | lw _ => exact k.elim
theorem kit_list (k : Kn S x) : kitB (tyS x) "list" = some (isL x) := by
  cases x with
  | non => exact (by decide +kernel : kitB "NoneType" "list" = some false)
  | bl _ => exact (by decide +kernel : kitB "bool" "list" = some false)
  | int _ => exact (by decide +kernel : kitB "int" "list" = some false)
  | str _ => exact (by decide +kernel : kitB "str" "list" = some false)
  | tup _ => exact (by decide +kernel : kitB "tuple" "list" = some false)
  | ref _ => exact (by decide +kernel : kitB "list" "list" = some true)
  | fn _ => exact k.elim
  | ty _ => exact k.elim
  | lw _ => exact k.elim
theorem isi_int (k : Kn S x) : dIsi [x, .ty "int"] S Q = Q (.bl (isI x || isBl x)) S := by
  show (tyN x S fun t => ∃ b, kitB t "int" = some b ∧ Q (.bl b) S) = _
  rw [tyN_at k, kit_int k]
  apply propext
  exact ⟨fun ⟨b, e, h⟩ => by cases e; exact h, fun h => ⟨_, rfl, h⟩⟩
theorem isi_bool (k : Kn S x) : dIsi [x, .ty "bool"] S Q = Q (.bl (isBl x)) S := by
  show (tyN x S fun t => ∃ b, kitB t "bool" = some b ∧ Q (.bl b) S) = _
  rw [tyN_at k, kit_bool k]
  apply propext
  exact ⟨fun ⟨b, e, h⟩ => by cases e; exact h, fun h => ⟨_, rfl, h⟩⟩
theorem isi_str (k : Kn S x) : dIsi [x, .ty "str"] S Q = Q (.bl (isSt x)) S := by
  show (tyN x S fun t => ∃ b, kitB t "str" = some b ∧ Q (.bl b) S) = _
  rw [tyN_at k, kit_str k]
  apply propext
  exact ⟨fun ⟨b, e, h⟩ => by cases e; exact h, fun h => ⟨_, rfl, h⟩⟩
theorem isi_tuple (k : Kn S x) : dIsi [x, .ty "tuple"] S Q = Q (.bl (isT x)) S := by
  show (tyN x S fun t => ∃ b, kitB t "tuple" = some b ∧ Q (.bl b) S) = _
  rw [tyN_at k, kit_tuple k]
  apply propext
  exact ⟨fun ⟨b, e, h⟩ => by cases e; exact h, fun h => ⟨_, rfl, h⟩⟩
theorem isi_list (k : Kn S x) : dIsi [x, .ty "list"] S Q = Q (.bl (isL x)) S := by
  show (tyN x S fun t => ∃ b, kitB t "list" = some b ∧ Q (.bl b) S) = _
  rw [tyN_at k, kit_list k]
  apply propext
  exact ⟨fun ⟨b, e, h⟩ => by cases e; exact h, fun h => ⟨_, rfl, h⟩⟩
theorem isi_tl (k : Kn S x) : dIsi [x, .tup [.ty "tuple", .ty "list"]] S Q = Q (.bl (isT x || isL x)) S := by
  show (tyN x S fun t => ∃ b b', kitB t "tuple" = some b ∧ kitB t "list" = some b' ∧ Q (.bl (b || b')) S) = _
  rw [tyN_at k, kit_tuple k, kit_list k]
  apply propext
  exact ⟨fun ⟨b, b', e, e', h⟩ => by cases e; cases e'; exact h, fun h => ⟨_, _, rfl, rfl, h⟩⟩
end
/-! ### loops -/
theorem lc_run {α : Type} {chk : Sto → Prop} {g : DG} {tt : DT} {te : DE} {ρ : Nv} (enc : α → D) (p : α → Bool) (f : α → D) (I : Sto → Prop) (hI : ∀ S, I S → chk S) : ∀ (xs : List α)
    (turn : ∀ x ∈ xs, ∀ (S : Sto) (Y : DQ) (N : Sto → Prop), I S → (p x = true → ∀ S', I S' → Y (f x) S') → (p x = false → ∀ S', I S' → N S') → g (enc x) ρ S fun ρ2 S2 => tt ρ2 S2 fun b S3 => if b = true then te ρ2 S3 Y else N S3)
    (S : Sto) (F : List D → Sto → Prop), I S → (∀ S', I S' → F ((xs.filter p).map f) S') → lcD chk g tt te ρ (xs.map enc) S F
  | [], _, S, F, h, k => ⟨hI S h, k S h⟩
  | x :: r, turn, S, F, h, k => by
    refine ⟨hI S h, turn x (by simp) S _ _ h (fun e S' h' => ?_) fun e S' h' => ?_⟩
    · exact lc_run enc p f I hI r (fun y hy => turn y (by simp [hy])) S' _ h' fun S'' h'' => by
        have := k S'' h''
        rw [List.filter_cons, if_pos e, List.map_cons] at this
        exact this
    · exact lc_run enc p f I hI r (fun y hy => turn y (by simp [hy])) S' _ h' fun S'' h'' => by
        have := k S'' h''
        rw [List.filter_cons, if_neg (by rw [e]; exact Bool.false_ne_true)] at this
        exact this
/-- a comprehension whose items' values hang on what they are, and on nothing else -/
theorem lc_map {α : Type} {chk : Sto → Prop} {g : DG} {te : DE} {ρ : Nv} (enc : α → D) (f : α → D) (I : Sto → Prop) (hI : ∀ S, I S → chk S) (xs : List α)
    (turn : ∀ x ∈ xs, ∀ (S : Sto) (Y : DQ), I S → (∀ S', I S' → Y (f x) S') → g (enc x) ρ S fun ρ2 S2 => te ρ2 S2 Y)
    (S : Sto) (F : List D → Sto → Prop) (h : I S) (k : ∀ S', I S' → F (xs.map f) S') : lcD chk g dYes te ρ (xs.map enc) S F :=
  lc_run enc (fun _ => true) f I hI xs (fun x hx S Y N hS y _ => turn x hx S Y hS (y rfl)) S F h fun S' h' => by
    rw [List.filter_eq_self.mpr (fun _ _ => rfl)]
    exact k S' h'
theorem for_run {α : Type} {chk : Sto → Prop} {g : DG} {tb : DS} {N : DEnds} (enc : α → D) (P : Nat → Nv → Sto → Prop) : ∀ (xs : List α) (n : Nat)
    (turn : ∀ i x, xs[i]? = some x → ∀ (ρ : Nv) (S : Sto) (K : Nv → Sto → Prop), P (n + i) ρ S → (∀ ρ' S', P (n + i + 1) ρ' S' → K ρ' S') → chk S ∧ g (enc x) ρ S fun ρ' S' => tb { N with nx := K, ct := K, bk := N.nx } ρ' S')
    (fin : ∀ ρ S, P (n + xs.length) ρ S → chk S ∧ N.nx ρ S) (ρ : Nv) (S : Sto), P n ρ S → forD chk g tb N (xs.map enc) ρ S
  | [], n, _, fin, ρ, S, h => fin ρ S h
  | x :: r, n, turn, fin, ρ, S, h => by
    refine turn 0 x rfl ρ S _ h fun ρ' S' h' => ?_
    refine for_run enc P r (n + 1) (fun i y hy ρ2 S2 K hp hk => turn (i + 1) y (by simpa using hy) ρ2 S2 K (by rwa [Nat.add_assoc, Nat.add_comm 1 i] at hp) fun ρ3 S3 h3 => hk ρ3 S3 (by rwa [show n + (i + 1) + 1 = n + 1 + i + 1 by omega] at h3)) (fun ρ2 S2 h2 => fin ρ2 S2 (by rw [List.length_cons, show n + (r.length + 1) = n + 1 + r.length by omega]; exact h2)) ρ' S' h'
/-- a loop with an invariant by the turn's number -/
theorem for_inv {α : Type} {chk : Sto → Prop} {g : DG} {tb : DS} {N : DEnds} (enc : α → D) (xs : List α) (P : Nat → Nv → Sto → Prop)
    (turn : ∀ i x, xs[i]? = some x → ∀ (ρ : Nv) (S : Sto) (K : Nv → Sto → Prop), P i ρ S → (∀ ρ' S', P (i + 1) ρ' S' → K ρ' S') → chk S ∧ g (enc x) ρ S fun ρ' S' => tb { N with nx := K, ct := K, bk := N.nx } ρ' S')
    (fin : ∀ ρ S, P xs.length ρ S → chk S ∧ N.nx ρ S) {ρ : Nv} {S : Sto} (h : P 0 ρ S) : forD chk g tb N (xs.map enc) ρ S :=
  for_run enc P xs 0 (fun i x hx ρ S K hp hk => turn i x hx ρ S K (by rwa [Nat.zero_add] at hp) fun ρ' S' h' => hk ρ' S' (by rwa [Nat.zero_add])) (fun ρ S h => fin ρ S (by rwa [Nat.zero_add] at h)) ρ S h
end DL

set_option Elab.async false
set_option linter.all false
set_option maxRecDepth 100000
set_option maxHeartbeats 4000000
/-! == and in, by data -/
namespace DL
open PySem L2
mutual
def pd : D → PyData
  | .non => .none
  | .bl b => .bool b
  | .int i => .int i
  | .str z => .str z
  | .tup xs => .tuple (pds xs)
  | _ => .none
def pds : List D → List PyData
  | [] => []
  | x :: r => pd x :: pds r
end
mutual
/-- data without lists, nested at most n deep -/
def isD (n : Nat) : D → Bool
  | .non => true
  | .bl _ => true
  | .int _ => true
  | .str z => PyData.strOk z
  | .tup xs => match n with
    | 0 => false
    | n + 1 => isDs n xs
  | _ => false
def isDs (n : Nat) : List D → Bool
  | [] => true
  | x :: r => isD n x && isDs n r
end
mutual
theorem dd_pd (S : Sto) : ∀ (n : Nat) (x : D), isD n x = true → Dd S x (pd x)
  | _, .non, _ => .non
  | _, .bl b, _ => .bl b
  | _, .int i, _ => .int i
  | _, .str z, _ => .str z
  | 0, .tup xs, h => by simp [isD] at h
  | n + 1, .tup xs, h => .tup (dds_pds S n xs (by simpa [isD] using h))
  | _, .ref _, h => by simp [isD] at h
  | _, .fn _, h => by simp [isD] at h
  | _, .ty _, h => by simp [isD] at h
  | _, .lw _, h => by simp [isD] at h
theorem dds_pds (S : Sto) : ∀ (n : Nat) (xs : List D), isDs n xs = true → DdL S xs (pds xs)
  | _, [], _ => .nil
  | n, x :: r, h => by
    have h' := Bool.and_eq_true_iff.mp (show (isD n x && isDs n r) = true by simpa [isDs] using h)
    exact .cons (dd_pd S n x h'.1) (dds_pds S n r h'.2)
end
mutual
theorem lay_pd : ∀ (n : Nat) (x : D), isD n x = true → (pd x).canLay0 = true ∧ (pd x).depth ≤ n
  | _, .non, _ => ⟨rfl, Nat.zero_le _⟩
  | _, .bl b, _ => ⟨rfl, Nat.zero_le _⟩
  | _, .int i, _ => ⟨rfl, Nat.zero_le _⟩
  | _, .str z, h => ⟨(show PyData.strOk z = true by simpa [isD] using h), Nat.zero_le _⟩
  | 0, .tup xs, h => by simp [isD] at h
  | n + 1, .tup xs, h => by
    obtain ⟨h1, h2⟩ := lay_pds n xs (by simpa [isD] using h)
    exact ⟨h1, Nat.succ_le_succ h2⟩
  | _, .ref _, h => by simp [isD] at h
  | _, .fn _, h => by simp [isD] at h
  | _, .ty _, h => by simp [isD] at h
  | _, .lw _, h => by simp [isD] at h
theorem lay_pds : ∀ (n : Nat) (xs : List D), isDs n xs = true → PyData.canLayAll0 (pds xs) = true ∧ PyData.depthAll (pds xs) ≤ n
  | _, [], _ => ⟨rfl, Nat.zero_le _⟩
  | n, x :: r, h => by
    have h' := Bool.and_eq_true_iff.mp (show (isD n x && isDs n r) = true by simpa [isDs] using h)
    obtain ⟨a, b⟩ := lay_pd n x h'.1
    obtain ⟨c, d⟩ := lay_pds n r h'.2
    exact ⟨by show (PyData.canLay0 (pd x) && PyData.canLayAll0 (pds r)) = true; rw [a, c]; rfl, Nat.max_le.mpr ⟨b, d⟩⟩
end
theorem shp_pd {x : D} (h : isD 63 x = true) : SeqAt.shaped (pd x) = true := by
  obtain ⟨a, b⟩ := lay_pd 63 x h
  exact Bool.and_eq_true_iff.mpr ⟨a, decide_eq_true (by omega)⟩
theorem shp_pdl {xs : List D} (h : isDs 63 xs = true) : SeqAt.shaped (.list (pds xs)) = true := by
  obtain ⟨a, b⟩ := lay_pds 63 xs h
  exact Bool.and_eq_true_iff.mpr ⟨a, decide_eq_true (show PyData.depthAll (pds xs) + 1 ≤ 64 by omega)⟩
theorem shp_pdt {xs : List D} (h : isDs 63 xs = true) : SeqAt.shaped (.tuple (pds xs)) = true := by
  obtain ⟨a, b⟩ := lay_pds 63 xs h
  exact Bool.and_eq_true_iff.mpr ⟨a, decide_eq_true (show PyData.depthAll (pds xs) + 1 ≤ 64 by omega)⟩
theorem eqv_int (i j : Int) : PyData.eqv (.int i) (.int j) = decide (i = j) := by
  show (i == j) = _
  by_cases h : i = j
  · subst h; simp
  · simp [h]
theorem eqv_bl (i j : Bool) : PyData.eqv (.bool i) (.bool j) = decide (i = j) := by
  show (i == j) = _
  cases i <;> cases j <;> rfl
/-- ==, of such data -/
def eqD (x y : D) : Bool := PyData.eqv (pd x) (pd y)
def eqDs (x y : List D) : Bool := PyData.eqvAll (pds x) (pds y)
section
variable {S : Sto} {Q : DQ} {x y : D} {xs ys : List D} {a b : Addr}
theorem eq_DD (hx : isD 63 x = true) (hy : isD 63 y = true) (h : Q (.bl (eqD x y)) S) : dEq x y S Q := .inl ⟨_, _, dd_pd S 63 x hx, dd_pd S 63 y hy, shp_pd hx, shp_pd hy, h⟩
theorem ne_DD (hx : isD 63 x = true) (hy : isD 63 y = true) (h : Q (.bl (!eqD x y)) S) : dNe x y S Q := .inl ⟨_, _, dd_pd S 63 x hx, dd_pd S 63 y hy, shp_pd hx, shp_pd hy, h⟩
theorem eq_RR (hx : LA S a xs) (hy : LA S b ys) (h1 : isDs 63 xs = true) (h2 : isDs 63 ys = true) (h : Q (.bl (eqDs xs ys)) S) : dEq (.ref a) (.ref b) S Q := .inl ⟨_, _, .lst hx (dds_pds S 63 xs h1), .lst hy (dds_pds S 63 ys h2), shp_pdl h1, shp_pdl h2, h⟩
theorem ne_RR (hx : LA S a xs) (hy : LA S b ys) (h1 : isDs 63 xs = true) (h2 : isDs 63 ys = true) (h : Q (.bl (!eqDs xs ys)) S) : dNe (.ref a) (.ref b) S Q := .inl ⟨_, _, .lst hx (dds_pds S 63 xs h1), .lst hy (dds_pds S 63 ys h2), shp_pdl h1, shp_pdl h2, h⟩
theorem eq_strs {p q : Str} (h : Q (.bl (decide (p = q))) S) : dEq (.str p) (.str q) S Q := .inr ⟨p, q, rfl, rfl, h⟩
theorem ne_strs {p q : Str} (h : Q (.bl (!decide (p = q))) S) : dNe (.str p) (.str q) S Q := .inr ⟨p, q, rfl, rfl, h⟩
theorem eq_ints {i j : Int} (h : Q (.bl (decide (i = j))) S) : dEq (.int i) (.int j) S Q := eq_DD rfl rfl (by
  have : eqD (.int i) (.int j) = decide (i = j) := eqv_int i j
  rw [this]; exact h)
theorem ne_ints {i j : Int} (h : Q (.bl (!decide (i = j))) S) : dNe (.int i) (.int j) S Q := ne_DD rfl rfl (by
  have : eqD (.int i) (.int j) = decide (i = j) := eqv_int i j
  rw [this]; exact h)
theorem eq_bls {i j : Bool} (h : Q (.bl (decide (i = j))) S) : dEq (.bl i) (.bl j) S Q := eq_DD rfl rfl (by
  have : eqD (.bl i) (.bl j) = decide (i = j) := eqv_bl i j
  rw [this]; exact h)
theorem ne_bls {i j : Bool} (h : Q (.bl (!decide (i = j))) S) : dNe (.bl i) (.bl j) S Q := ne_DD rfl rfl (by
  have : eqD (.bl i) (.bl j) = decide (i = j) := eqv_bl i j
  rw [this]; exact h)
theorem in_DR {neg : Bool} (hy : sqD y S fun ds _ => isDs 62 ds = true ∧ Q (.bl (if neg then !(ds.any fun z => eqD z x) else ds.any fun z => eqD z x)) S) (hx : isD 63 x = true) : dIn neg x y S Q := by
  have key : ∀ ds : List D, ((pds ds).any fun z => PyData.eqv z (pd x)) = ds.any fun z => eqD z x := by
    intro ds
    induction ds with
    | nil => rfl
    | cons d r ih => show (PyData.eqv (pd d) (pd x) || (pds r).any _) = _; rw [ih]; rfl
  have up : ∀ ds : List D, isDs 62 ds = true → DdL S ds (pds ds) ∧ SeqAt.shaped (.list (pds ds)) = true ∧ SeqAt.shaped (.tuple (pds ds)) = true := fun ds h => by
    obtain ⟨a, b⟩ := lay_pds 62 ds h
    exact ⟨dds_pds S 62 ds h, Bool.and_eq_true_iff.mpr ⟨a, decide_eq_true (show PyData.depthAll (pds ds) + 1 ≤ 64 by omega)⟩, Bool.and_eq_true_iff.mpr ⟨a, decide_eq_true (show PyData.depthAll (pds ds) + 1 ≤ 64 by omega)⟩⟩
  have fin : ∀ ds : List D, isDs 62 ds = true ∧ Q (.bl (if neg then !(ds.any fun z => eqD z x) else ds.any fun z => eqD z x)) S → ∃ ps q, DdL S ds ps ∧ Dd S x q ∧ SeqAt.shaped (.list ps) = true ∧ SeqAt.shaped (.tuple ps) = true ∧ SeqAt.shaped q = true ∧
      Q (.bl (if neg then !(ps.any fun z => PyData.eqv z q) else ps.any fun z => PyData.eqv z q)) S := fun ds ⟨h1, h2⟩ => by
    obtain ⟨u1, u2, u3⟩ := up ds h1
    exact ⟨pds ds, pd x, u1, dd_pd S 63 x hx, u2, u3, shp_pd hx, by rw [key]; exact h2⟩
  unfold dIn
  cases y with
  | tup xs => exact fin xs hy
  | ref a => obtain ⟨ds, l, h⟩ := hy; exact ⟨ds, l, fin ds h⟩
  | _ => exact hy.elim
end
/-! ### tuples and lists of ints -/
abbrev tI (ns : List Int) : D := .tup (ns.map D.int)
theorem isDs_ints (n : Nat) : ∀ ns : List Int, isDs n (ns.map D.int) = true
  | [] => rfl
  | i :: r => by simp [isDs, isD, isDs_ints n r]
theorem isD_tI (n : Nat) (ns : List Int) : isD (n + 1) (tI ns) = true := by simp [isD, isDs_ints]
theorem eqDs_ints : ∀ xs ys : List Int, eqDs (xs.map D.int) (ys.map D.int) = decide (xs = ys)
  | [], [] => rfl
  | [], _ :: _ => rfl
  | _ :: _, [] => rfl
  | x :: xs, y :: ys => by
    show (PyData.eqv (.int x) (.int y) && eqDs (xs.map D.int) (ys.map D.int)) = _
    rw [eqDs_ints xs ys]
    rw [eqv_int]
    by_cases h : x = y <;> by_cases h2 : xs = ys <;> simp [h, h2]
theorem eqD_tI (xs ys : List Int) : eqD (tI xs) (tI ys) = decide (xs = ys) := eqDs_ints xs ys
theorem isDs_all {n : Nat} {xs : List D} : isDs n xs = xs.all (isD n) := by
  induction xs with
  | nil => rfl
  | cons x r ih => simp [isDs, ih]
theorem eqDs_nil : ∀ xs : List D, eqDs xs [] = xs.isEmpty
  | [] => rfl
  | _ :: _ => rfl
section
variable {S : Sto} {Q : DQ} {xs ys : List Int} {a b : Addr}
theorem eq_tI (h : Q (.bl (decide (xs = ys))) S) : dEq (tI xs) (tI ys) S Q := eq_DD (isD_tI _ _) (isD_tI _ _) (by rw [eqD_tI]; exact h)
theorem ne_tI (h : Q (.bl (!decide (xs = ys))) S) : dNe (tI xs) (tI ys) S Q := ne_DD (isD_tI _ _) (isD_tI _ _) (by rw [eqD_tI]; exact h)
theorem eq_lI (hx : LA S a (xs.map D.int)) (hy : LA S b (ys.map D.int)) (h : Q (.bl (decide (xs = ys))) S) : dEq (.ref a) (.ref b) S Q := eq_RR hx hy (isDs_ints _ _) (isDs_ints _ _) (by rw [eqDs_ints]; exact h)
theorem ne_lI (hx : LA S a (xs.map D.int)) (hy : LA S b (ys.map D.int)) (h : Q (.bl (!decide (xs = ys))) S) : dNe (.ref a) (.ref b) S Q := ne_RR hx hy (isDs_ints _ _) (isDs_ints _ _) (by rw [eqDs_ints]; exact h)
end
/-! ### new things -/
theorem Ext.new_eq {S S1 : Sto} {p : Addr} {c : Cell} (e : up1 S p c = S1) (h : S p = none) : Ext S S1 := e ▸ Ext.new h
theorem up_eq {S S1 : Sto} {p : Addr} {c : Cell} (e : up1 S p c = S1) : S1 p = some c := e ▸ up1_same
theorem ExtB.side {a p : Addr} {S S1 : Sto} {c : Cell} (e : ExtB a S S1) (h : S p = none) : ExtB a S (up1 S1 p c) := fun b c' n hb => by
  rw [up1_ne (fun z => by rw [z, h] at hb; cases hb)]; exact e b c' n hb
theorem ExtB.none_of {a p : Addr} {S S1 : Sto} (e : ExtB a S S1) (h : S1 p = none) (n : p ≠ a) : S p = none := by
  cases q : S p with
  | none => rfl
  | some c => rw [e p c n q] at h; cases h
theorem Ext.none_of {p : Addr} {S S1 : Sto} (e : Ext S S1) (h : S1 p = none) : S p = none := by
  cases q : S p with
  | none => rfl
  | some c => rw [e p c q] at h; cases h
inductive All2 {α β : Type} (R : α → β → Prop) : List α → List β → Prop where
  | nil : All2 R [] []
  | cons {x y xs ys} : R x y → All2 R xs ys → All2 R (x :: xs) (y :: ys)
theorem All2.length {α β : Type} {R : α → β → Prop} {xs : List α} {ys : List β} (h : All2 R xs ys) : xs.length = ys.length := by
  induction h with
  | nil => rfl
  | cons _ _ ih => rw [List.length_cons, List.length_cons, ih]
/-- a comprehension whose values hang on the state too -/
theorem lc_rel {α : Type} {chk : Sto → Prop} {g : DG} {te : DE} {ρ : Nv} (enc : α → D) (R : α → D → Prop) (I : Sto → Prop) (hI : ∀ S, I S → chk S) : ∀ (xs : List α)
    (turn : ∀ x ∈ xs, ∀ (S : Sto) (Y : DQ), I S → (∀ y S', R x y → I S' → Y y S') → g (enc x) ρ S fun ρ2 S2 => te ρ2 S2 Y)
    (S : Sto) (F : List D → Sto → Prop), I S → (∀ ys S', All2 R xs ys → I S' → F ys S') → lcD chk g dYes te ρ (xs.map enc) S F
  | [], _, S, F, h, k => ⟨hI S h, k [] S .nil h⟩
  | x :: r, turn, S, F, h, k => ⟨hI S h, turn x (by simp) S _ h fun y S' hy h' => lc_rel enc R I hI r (fun z hz => turn z (by simp [hz])) S' _ h' fun ys S'' hys h'' => k (y :: ys) S'' (.cons hy hys) h''⟩
theorem all2_ints {α : Type} {P : α → Int → Prop} : ∀ {xs : List α} {ys : List D}, All2 (fun x y => ∃ n, y = D.int n ∧ P x n) xs ys → ∃ ns : List Int, ys = ns.map D.int ∧ All2 P xs ns
  | _, _, .nil => ⟨[], rfl, .nil⟩
  | _, _, .cons ⟨n, e, h⟩ t => by
    obtain ⟨ns, rfl, q⟩ := all2_ints t
    subst e
    exact ⟨n :: ns, rfl, .cons h q⟩
theorem All2.right {α β : Type} {R : α → β → Prop} {P : β → Prop} (hp : ∀ x y, R x y → P y) : ∀ {xs : List α} {ys : List β}, All2 R xs ys → ∀ y ∈ ys, P y
  | _, _, .nil => fun y hy => by cases hy
  | _, _, .cons h t => fun y hy => by
    rcases List.mem_cons.mp hy with e | hy
    · subst e; exact hp _ _ h
    · exact All2.right hp t y hy
end DL

set_option Elab.async false
set_option linter.all false
set_option maxRecDepth 100000
set_option maxHeartbeats 4000000
/-! repr, by data -/
namespace DL
open PySem L2
mutual
/-- data whose repr has a bound: no texts -/
def isR : D → Bool
  | .non => true
  | .bl _ => true
  | .int i => decide (i.natAbs.log2 < 1920)
  | .tup xs => isRs xs
  | _ => false
def isRs : List D → Bool
  | [] => true
  | x :: r => isR x && isRs r
end
mutual
def wD : D → Nat
  | .non => 4
  | .bl _ => 5
  | .int _ => 1921
  | .tup xs => wDs xs + 3
  | _ => 0
def wDs : List D → Nat
  | [] => 0
  | x :: r => wD x + 2 + wDs r
end
theorem tupleText_len (ts : List Str) : (tupleText ts).length ≤ piled ts + 3 := by
  unfold tupleText
  rw [Str.length_append, Str.length_append]
  have h1 : ("(" : Str).length = 1 := by decide +kernel
  have h2 : (Str.ofString (if ts.length == 1 then ",)" else ")")).length ≤ 2 := by split <;> decide +kernel
  cases ts with
  | nil =>
    have h3 : (Str.join ", " []).length = 0 := by decide +kernel
    rw [h1, h3]
    have h2' : (if ([] : List Str).length == 1 then ",)" else ")" : Str).length ≤ 2 := h2
    exact Nat.le_trans (Nat.add_le_add_left h2' _) (by omega)
  | cons t r =>
    have h3 := join_length_add (t :: r) (by simp)
    rw [h1]
    show 1 + (Str.join ", " (t :: r)).length + (Str.ofString (if (t :: r).length == 1 then ",)" else ")")).length ≤ piled (t :: r) + 3
    omega
mutual
theorem shown_len : ∀ x : D, isR x = true → (pd x).showable = true ∧ (pd x).hasDict = false ∧ (pd x).shown.length ≤ wD x
  | .non, _ => ⟨rfl, rfl, by decide +kernel⟩
  | .bl b, _ => ⟨rfl, rfl, by cases b <;> decide +kernel⟩
  | .int i, h => by
    have h' : i.natAbs.log2 < 1920 := of_decide_eq_true (by simpa [isR] using h)
    refine ⟨by show decide _ = true; exact decide_eq_true h', rfl, ?_⟩
    show (Str.ofString (toString i)).length ≤ 1921
    rw [ofString_length]
    exact int_text_length_le (by decide) h'
  | .tup xs, h => by
    obtain ⟨a, b, c⟩ := shown_lens xs (by simpa [isR] using h)
    refine ⟨a, b, ?_⟩
    show (tupleText (PyData.shownAll (pds xs))).length ≤ wDs xs + 3
    exact Nat.le_trans (tupleText_len _) (by omega)
  | .str _, h => by simp [isR] at h
  | .ref _, h => by simp [isR] at h
  | .fn _, h => by simp [isR] at h
  | .ty _, h => by simp [isR] at h
  | .lw _, h => by simp [isR] at h
theorem shown_lens : ∀ xs : List D, isRs xs = true → PyData.showableAll (pds xs) = true ∧ PyData.hasDictAll (pds xs) = false ∧ piled (PyData.shownAll (pds xs)) ≤ wDs xs
  | [], _ => ⟨rfl, rfl, Nat.le_refl _⟩
  | x :: r, h => by
    have h' := Bool.and_eq_true_iff.mp (show (isR x && isRs r) = true by simpa [isRs] using h)
    obtain ⟨a, b, c⟩ := shown_len x h'.1
    obtain ⟨d, e, f⟩ := shown_lens r h'.2
    refine ⟨by show (PyData.showable (pd x) && PyData.showableAll (pds r)) = true; rw [a, d]; rfl, by show (PyData.hasDict (pd x) || PyData.hasDictAll (pds r)) = false; rw [b, e]; rfl, ?_⟩
    show piled ((pd x).shown :: PyData.shownAll (pds r)) ≤ wD x + 2 + wDs r
    rw [piled_cons]
    omega
end
theorem wDs_ints : ∀ ns : List Int, wDs (ns.map D.int) = 1923 * ns.length
  | [] => rfl
  | n :: r => by
    show 1921 + 2 + wDs (r.map D.int) = _
    rw [wDs_ints r, List.length_cons]; omega
theorem isRs_ints : ∀ {ns : List Int}, (∀ n ∈ ns, n.natAbs.log2 < 1920) → isRs (ns.map D.int) = true
  | [], _ => rfl
  | n :: r, h => by
    show (decide (n.natAbs.log2 < 1920) && isRs (r.map D.int)) = true
    rw [decide_eq_true (h n (by simp)), isRs_ints fun m hm => h m (by simp [hm])]; rfl
theorem log_small {n : Int} (h : n.natAbs < 2 ^ 1000) : n.natAbs.log2 < 1920 := by
  by_cases h0 : n.natAbs = 0
  · rw [h0]; decide
  · exact Nat.lt_of_lt_of_le ((Nat.log2_lt h0).mpr h) (by decide)
theorem repr_DD {S : Sto} {Q : DQ} {xs : List D} (h1 : isD 63 (.tup xs) = true) (h2 : isR (.tup xs) = true) (h3 : wD (.tup xs) ≤ sizeLine) (h : Q (.str (pd (.tup xs)).shown) S) : dRepr [.tup xs] S Q := by
  obtain ⟨a, b, c⟩ := shown_len _ h2
  exact ⟨⟨xs, .inl rfl⟩, _, dd_pd S 63 _ h1, a, b, Nat.le_trans (lay_pd 63 _ h1).2 (by decide), Nat.le_trans c h3, h⟩
end DL

set_option Elab.async false
set_option linter.all false
set_option maxRecDepth 100000
set_option maxHeartbeats 4000000
/-! defs that many laws share: what they do, by data -/
namespace Ca
open PySem DL L2
/-! ### helpers -/
theorem line {n : Nat} (h : n ≤ 1000000) : n ≤ sizeLine := Nat.le_trans h (by decide)
theorem Kn.ext {S S' : Sto} {x : D} (h : Kn S x) (e : Ext S S') : Kn S' x := by
  cases x <;> first
    | exact h
    | (obtain ⟨⟨ds, l⟩, _⟩ := (show (∃ ds, LA S _ ds) ∧ True from h); exact ⟨⟨ds, e _ _ l⟩, trivial⟩)
def allT (p : D → Bool) : D → Bool
  | .tup xs => xs.all p
  | _ => false
/-- a tuple's items are of known kinds -/
def KnT (S : Sto) (x : D) : Prop := Kn S x ∧ ∀ xs, x = .tup xs → xs.length ≤ sizeLine ∧ ∀ m ∈ xs, Kn S m
theorem KnT.ext {S S' : Sto} {x : D} (h : KnT S x) (e : Ext S S') : KnT S' x := ⟨Kn.ext h.1 e, fun xs ex => ⟨(h.2 xs ex).1, fun m hm => Kn.ext ((h.2 xs ex).2 m hm) e⟩⟩
theorem map_id_D (xs : List D) : xs = xs.map id := by simp
theorem all_bl (xs : List D) (p : D → Bool) : xs.map (fun m => D.bl (p m)) = (xs.map p).map D.bl := by simp
theorem all_id {α : Type} (xs : List α) (p : α → Bool) : (xs.map p).all id = xs.all p := by simp
theorem isI_ints : ∀ {xs : List D}, xs.all isI = true → ∃ ns : List Int, xs = ns.map D.int
  | [], _ => ⟨[], rfl⟩
  | x :: r, h => by
    rw [List.all_cons, Bool.and_eq_true] at h
    obtain ⟨ns, rfl⟩ := isI_ints h.2
    cases x <;> first
      | exact absurd h.1 Bool.false_ne_true
      | exact ⟨_ :: ns, rfl⟩
theorem allT_isI {x : D} (h : allT isI x = true) : ∃ ns, x = tI ns := by
  cases x <;> first
    | exact absurd h Bool.false_ne_true
    | (obtain ⟨ns, rfl⟩ := isI_ints h; exact ⟨ns, rfl⟩)
theorem all_isI (ns : List Int) : (ns.map D.int).all isI = true := by simp [isI]
/-- a row of n numbers, none below 0 -/
def isRow (n : Nat) (x : D) : Bool := match x with
  | .tup xs => xs.all isI && decide (xs.length = n) && xs.all fun m => match m with | .int i => decide (0 ≤ i) | _ => false
  | _ => false
theorem isRow_tI {n : Nat} {ns : List Int} : isRow n (tI ns) = (decide (ns.length = n) && ns.all fun i => decide (0 ≤ i)) := by
  show ((ns.map D.int).all isI && decide ((ns.map D.int).length = n) && (ns.map D.int).all _) = _
  rw [all_isI, List.length_map, List.all_map]
  rfl
theorem isRow_inv {n : Nat} {x : D} (h : isRow n x = true) : ∃ ns, x = tI ns ∧ ns.length = n ∧ ∀ i ∈ ns, 0 ≤ i := by
  cases x <;> first
    | exact absurd h Bool.false_ne_true
    | skip
  rename_i xs
  have h1 : xs.all isI = true := by
    cases e : xs.all isI with
    | true => rfl
    | false => simp [isRow, e] at h
  obtain ⟨ns, rfl⟩ := isI_ints h1
  rw [isRow_tI, Bool.and_eq_true] at h
  exact ⟨ns, rfl, of_decide_eq_true h.1, fun i hi => of_decide_eq_true (List.all_eq_true.mp h.2 i hi)⟩
/-! ### what they promise -/
def sp_is_integer : FSp := fun ds S Q _ => ∃ x, ds = [x] ∧ Kn S x ∧ Q (.bl (isI x)) S
def sp__law_is_int : FSp := sp_is_integer
def sp_are_all (tab : Str → Option FSp) : FSp := fun ds S Q _ => ∃ x y sp p, ds = [x, .fn y] ∧ tab y = some sp ∧ Kn S x ∧
  (∀ xs, x = .tup xs → xs.length ≤ sizeLine ∧ ∀ m ∈ xs, ∀ S' Q' EP', Ext S S' → (∀ S'', Ext S' S'' → Q' (.bl (p m)) S'') → sp [m] S' Q' EP') ∧ ∀ S', Ext S S' → Q (.bl (allT p x)) S'
def sp_are_integers : FSp := fun ds S Q _ => ∃ x, ds = [x] ∧ KnT S x ∧ ∀ S', Ext S S' → Q (.bl (allT isI x)) S'
def sp_kinds : FSp := fun ds S Q _ => ∃ (vs : List D) (r : List D), ds = [.tup (.tup vs :: r)] ∧ Q (.int vs.length) S
def sp_is_row : FSp := fun ds S Q _ => ∃ (vs r : List D) (x : D), ds = [.tup (.tup vs :: r), x] ∧ KnT S x ∧ ∀ S', Ext S S' → Q (.bl (isRow vs.length x)) S'
def sp__law_is_row : FSp := sp_is_row
def worthZ : List Int → List Int → Int
  | v :: vs, r :: rs => v * r + worthZ vs rs
  | _, _ => 0
/-- small enough a factor -/
def Sm (v : Int) : Prop := -(2 ^ 64) < v ∧ v < 2 ^ 64
def sp_worth : FSp := fun ds S Q _ => ∃ (vs rs : List Int) (r : List D), ds = [.tup (tI vs :: r), tI rs] ∧ (∀ v ∈ vs, Sm v) ∧ vs.length ≤ sizeLine ∧ ∀ S', Ext S S' → Q (.int (worthZ vs rs)) S'
def sp__law_worth : FSp := sp_worth
def d_is_integer (EP : Exc → Sto → Prop) : DS :=
  (dRet (dAndV (dCall dIsi (dCons (dVar 0) (dCons (dC (.ty "int")) dNil))) (dNotV (dCall dIsi (dCons (dVar 0) (dCons (dC (.ty "bool")) dNil))))))
def d_are_all (tab : Str → Option FSp) (EP : Exc → Sto → Prop) : DS :=
  (dRet (dAndV (dCall dIsi (dCons (dVar 0) (dCons (dC (.ty "tuple")) dNil))) (dCall dAll (dCons (dLc (iAny (dVar 0)) (gSet 2) dYes (dFnV tab 1 xNo (dCons (dVar 2) dNil)) [2]) dNil))))
def d_are_integers (tab : Str → Option FSp) (EP : Exc → Sto → Prop) : DS :=
  (dRet (dFn (sp_are_all tab) (xF EP) (dCons (dVar 0) (dCons (dC (.fn "is_integer")) dNil))))
def d_kinds (EP : Exc → Sto → Prop) : DS :=
  (dRet (dCall dLen (dCons (dOp dIx (dVar 0) (dC (.int 0))) dNil)))
def d_is_row (EP : Exc → Sto → Prop) : DS :=
  (dRet (dAndV (dFn sp_are_integers (xF EP) (dCons (dVar 1) dNil)) (dAndV (dOp dEq (dCall dLen (dCons (dVar 1) dNil)) (dFn sp_kinds (xF EP) (dCons (dVar 0) dNil))) (dCall dAll (dCons (dLc (iAny (dVar 1)) (gSet 2) dYes (dOp (dCmpI (fun i j => decide (j ≤ i))) (dVar 2) (dC (.int 0))) [2]) dNil)))))
def d_worth (EP : Exc → Sto → Prop) : DS :=
  (dRet (dCall dSum (dCons (dLc (iZip (dCons (dOp dIx (dVar 0) (dC (.int 0))) (dCons (dVar 1) dNil))) (gTup 2 (gCons (gSet 2) (gCons (gSet 3) gNil))) dYes (dOp dMul (dVar 2) (dVar 3)) [2, 3]) dNil)))
def d__law_is_int (EP : Exc → Sto → Prop) : DS :=
  (dRet (dAndV (dCall dIsi (dCons (dVar 0) (dCons (dC (.ty "int")) dNil))) (dNotV (dCall dIsi (dCons (dVar 0) (dCons (dC (.ty "bool")) dNil))))))
def d__law_worth (EP : Exc → Sto → Prop) : DS :=
  (dRet (dCall dSum (dCons (dLc (iZip (dCons (dOp dIx (dVar 0) (dC (.int 0))) (dCons (dVar 1) dNil))) (gTup 2 (gCons (gSet 2) (gCons (gSet 3) gNil))) dYes (dOp dMul (dVar 2) (dVar 3)) [2, 3]) dNil)))

/-! ### they keep it -/
theorem len_is_integer : ∀ ds S P EP, sp_is_integer ds S P EP → ds.length = 1 := by rintro _ S P EP ⟨x, rfl, _⟩; rfl
theorem pure_is_integer : ∀ ds S Q EP, sp_is_integer ds S Q EP → d_is_integer EP { nx := fun _ S' => Q .non S', rt := Q } (startD 1 ds) S := by
  rintro ds S Q EP ⟨x, rfl, hk, h⟩
  unfold d_is_integer
  try simp only [isi_int hk, isi_bool hk, DL.ap_dC, DL.ap_dVar, DL.ap_dNil, DL.ap_dCons, DL.ap_dTup, DL.ap_dLst, DL.ap_dOp, DL.ap_dB, DL.ap_dChain, DL.ap_dTru, DL.ap_dAndT, DL.ap_dOrT, DL.ap_dNotT, DL.ap_dAndV, DL.ap_dOrV, DL.ap_dNotV, DL.ap_dIf, DL.ap_dUn, DL.ap_dCall, DL.ap_dNoPart, DL.ap_dPart, DL.ap_dSl, DL.ap_dBM, DL.ap_dBM0, DL.ap_dFn, DL.ap_dLc, DL.ap_dYes, DL.ap_dRg1, DL.ap_dRg2, DL.ap_dLrg, DL.ap_dTrg, DL.ap_iAny, DL.ap_iRng1, DL.ap_iRng2, DL.ap_iRng3, DL.ap_rng1P, DL.ap_rng2P, DL.ap_rng3P, DL.ap_iZip, DL.ap_dLzip, DL.ap_dZ2, DL.ap_iEnm, DL.ap_a1, DL.ap_a2, DL.ap_sqT, DL.ap_sqR, DL.ap_dNext, DL.ap_dSeq, DL.ap_dBreak, DL.ap_dCont, DL.ap_dDrop, DL.ap_dRet, DL.ap_dRetN, DL.ap_dIfS, DL.ap_dAsg, DL.ap_dPar, DL.ap_a3, DL.ap_dPar3, DL.ap_dAug, DL.ap_dAugS, DL.ap_dFor, DL.ap_gSet, DL.ap_gTup, DL.ap_gNil, DL.ap_gCons, DL.ap_gSub, DL.tr_non, DL.tr_bl, DL.tr_int, DL.tr_str, DL.tr_tup, DL.tr_ref, DL.ad_int, DL.ad_tup, DL.ad_ref, DL.sb_int, DL.mu_int, DL.mu_tup, DL.mu_ref, DL.fd_int, DL.md_int, DL.pw_int, DL.ng_int, DL.i2_int, DL.ci_int, DL.is_bl, DL.is_nn, DL.is_in, DL.is_tn, DL.is_rn, DL.is_sn, DL.ix_tup, DL.ix_ref, DL.ixl_ref, DL.sl_tup, DL.sl_lw, DL.sl_ref, DL.st_ref, DL.ap_append, DL.ap_extend, DL.ap_popI, DL.ap_pop0, DL.ty_ref, DL.ln_tup, DL.ln_ref, DL.ab_int, DL.in_int, DL.in_bl, DL.mn_int, DL.mx_int, DL.sm_of, DL.al_ref, DL.an_ref, DL.li_of, DL.tu_of, DL.so_ref, DL.getV_0, DL.getV_s, DL.set_0, DL.set_s, DL.startD_nil, DL.startD_cons, DL.rep_0, DL.rep_s, DL.wipe_nil, DL.wipe_cons, DL.isB_bl, DL.isN_int, DL.someD_some, DL.at0, DL.at1, DL.at2, DL.at3, DL.at4, DL.at5, DL.up1_same, DL.up_up]
  cases x <;> first
    | exact h
    | exact hk.elim
theorem len__law_is_int : ∀ ds S P EP, sp__law_is_int ds S P EP → ds.length = 1 := len_is_integer
theorem pure__law_is_int : ∀ ds S Q EP, sp__law_is_int ds S Q EP → d__law_is_int EP { nx := fun _ S' => Q .non S', rt := Q } (startD 1 ds) S := pure_is_integer
theorem len_are_all (tab : Str → Option FSp) : ∀ ds S P EP, sp_are_all tab ds S P EP → ds.length = 2 := by rintro _ S P EP ⟨x, y, _, _, rfl, _⟩; rfl
theorem ap_dFnV {T : Str → Option FSp} {i : Nat} {EX : EXn} {t : DA} {ρ : Nv} {S : Sto} {Q : DQ} {y : Str} {sp : FSp} (h : ρ[i]? = some (some (.fn y))) (hT : T y = some sp) (k : t ρ S fun ds S1 => sp ds S1 Q fun e S2 => EX e ρ S2) : dFnV T i EX t ρ S Q := ⟨y, sp, h, hT, k⟩
theorem pure_are_all (tab : Str → Option FSp) : ∀ ds S Q EP, sp_are_all tab ds S Q EP → d_are_all tab EP { nx := fun _ S' => Q .non S', rt := Q } (startD 3 ds) S := by
  rintro ds S Q EP ⟨x, y, sp, p, rfl, hT, hk, hx, h⟩
  unfold d_are_all
  try simp only [isi_tuple hk, DL.ap_dC, DL.ap_dVar, DL.ap_dNil, DL.ap_dCons, DL.ap_dTup, DL.ap_dLst, DL.ap_dOp, DL.ap_dB, DL.ap_dChain, DL.ap_dTru, DL.ap_dAndT, DL.ap_dOrT, DL.ap_dNotT, DL.ap_dAndV, DL.ap_dOrV, DL.ap_dNotV, DL.ap_dIf, DL.ap_dUn, DL.ap_dCall, DL.ap_dNoPart, DL.ap_dPart, DL.ap_dSl, DL.ap_dBM, DL.ap_dBM0, DL.ap_dFn, DL.ap_dLc, DL.ap_dYes, DL.ap_dRg1, DL.ap_dRg2, DL.ap_dLrg, DL.ap_dTrg, DL.ap_iAny, DL.ap_iRng1, DL.ap_iRng2, DL.ap_iRng3, DL.ap_rng1P, DL.ap_rng2P, DL.ap_rng3P, DL.ap_iZip, DL.ap_dLzip, DL.ap_dZ2, DL.ap_iEnm, DL.ap_a1, DL.ap_a2, DL.ap_sqT, DL.ap_sqR, DL.ap_dNext, DL.ap_dSeq, DL.ap_dBreak, DL.ap_dCont, DL.ap_dDrop, DL.ap_dRet, DL.ap_dRetN, DL.ap_dIfS, DL.ap_dAsg, DL.ap_dPar, DL.ap_a3, DL.ap_dPar3, DL.ap_dAug, DL.ap_dAugS, DL.ap_dFor, DL.ap_gSet, DL.ap_gTup, DL.ap_gNil, DL.ap_gCons, DL.ap_gSub, DL.tr_non, DL.tr_bl, DL.tr_int, DL.tr_str, DL.tr_tup, DL.tr_ref, DL.ad_int, DL.ad_tup, DL.ad_ref, DL.sb_int, DL.mu_int, DL.mu_tup, DL.mu_ref, DL.fd_int, DL.md_int, DL.pw_int, DL.ng_int, DL.i2_int, DL.ci_int, DL.is_bl, DL.is_nn, DL.is_in, DL.is_tn, DL.is_rn, DL.is_sn, DL.ix_tup, DL.ix_ref, DL.ixl_ref, DL.sl_tup, DL.sl_lw, DL.sl_ref, DL.st_ref, DL.ap_append, DL.ap_extend, DL.ap_popI, DL.ap_pop0, DL.ty_ref, DL.ln_tup, DL.ln_ref, DL.ab_int, DL.in_int, DL.in_bl, DL.mn_int, DL.mx_int, DL.sm_of, DL.al_ref, DL.an_ref, DL.li_of, DL.tu_of, DL.so_ref, DL.getV_0, DL.getV_s, DL.set_0, DL.set_s, DL.startD_nil, DL.startD_cons, DL.rep_0, DL.rep_s, DL.wipe_nil, DL.wipe_cons, DL.isB_bl, DL.isN_int, DL.someD_some, DL.at0, DL.at1, DL.at2, DL.at3, DL.at4, DL.at5, DL.up1_same, DL.up_up]
  cases x with
  | tup xs =>
    obtain ⟨hz, hm⟩ := hx xs rfl
    simp only [isT, if_true]
    try simp only [DL.ap_dC, DL.ap_dVar, DL.ap_dNil, DL.ap_dCons, DL.ap_dTup, DL.ap_dLst, DL.ap_dOp, DL.ap_dB, DL.ap_dChain, DL.ap_dTru, DL.ap_dAndT, DL.ap_dOrT, DL.ap_dNotT, DL.ap_dAndV, DL.ap_dOrV, DL.ap_dNotV, DL.ap_dIf, DL.ap_dUn, DL.ap_dCall, DL.ap_dNoPart, DL.ap_dPart, DL.ap_dSl, DL.ap_dBM, DL.ap_dBM0, DL.ap_dFn, DL.ap_dLc, DL.ap_dYes, DL.ap_dRg1, DL.ap_dRg2, DL.ap_dLrg, DL.ap_dTrg, DL.ap_iAny, DL.ap_iRng1, DL.ap_iRng2, DL.ap_iRng3, DL.ap_rng1P, DL.ap_rng2P, DL.ap_rng3P, DL.ap_iZip, DL.ap_dLzip, DL.ap_dZ2, DL.ap_iEnm, DL.ap_a1, DL.ap_a2, DL.ap_sqT, DL.ap_sqR, DL.ap_dNext, DL.ap_dSeq, DL.ap_dBreak, DL.ap_dCont, DL.ap_dDrop, DL.ap_dRet, DL.ap_dRetN, DL.ap_dIfS, DL.ap_dAsg, DL.ap_dPar, DL.ap_a3, DL.ap_dPar3, DL.ap_dAug, DL.ap_dAugS, DL.ap_dFor, DL.ap_gSet, DL.ap_gTup, DL.ap_gNil, DL.ap_gCons, DL.ap_gSub, DL.tr_non, DL.tr_bl, DL.tr_int, DL.tr_str, DL.tr_tup, DL.tr_ref, DL.ad_int, DL.ad_tup, DL.ad_ref, DL.sb_int, DL.mu_int, DL.mu_tup, DL.mu_ref, DL.fd_int, DL.md_int, DL.pw_int, DL.ng_int, DL.i2_int, DL.ci_int, DL.is_bl, DL.is_nn, DL.is_in, DL.is_tn, DL.is_rn, DL.is_sn, DL.ix_tup, DL.ix_ref, DL.ixl_ref, DL.sl_tup, DL.sl_lw, DL.sl_ref, DL.st_ref, DL.ap_append, DL.ap_extend, DL.ap_popI, DL.ap_pop0, DL.ty_ref, DL.ln_tup, DL.ln_ref, DL.ab_int, DL.in_int, DL.in_bl, DL.mn_int, DL.mx_int, DL.sm_of, DL.al_ref, DL.an_ref, DL.li_of, DL.tu_of, DL.so_ref, DL.getV_0, DL.getV_s, DL.set_0, DL.set_s, DL.startD_nil, DL.startD_cons, DL.rep_0, DL.rep_s, DL.wipe_nil, DL.wipe_cons, DL.isB_bl, DL.isN_int, DL.someD_some, DL.at0, DL.at1, DL.at2, DL.at3, DL.at4, DL.at5, DL.up1_same, DL.up_up]
    refine ⟨hz, ?_⟩
    rw [map_id_D xs]
    refine lc_map id (fun m => D.bl (p m)) (fun S' => Ext S S') (fun _ _ => trivial) xs (fun m hmem S1 Y h1 hY => ?_) S _ (Ext.refl S) fun S1 h1 q hq => ?_
    · try simp only [DL.ap_dC, DL.ap_dVar, DL.ap_dNil, DL.ap_dCons, DL.ap_dTup, DL.ap_dLst, DL.ap_dOp, DL.ap_dB, DL.ap_dChain, DL.ap_dTru, DL.ap_dAndT, DL.ap_dOrT, DL.ap_dNotT, DL.ap_dAndV, DL.ap_dOrV, DL.ap_dNotV, DL.ap_dIf, DL.ap_dUn, DL.ap_dCall, DL.ap_dNoPart, DL.ap_dPart, DL.ap_dSl, DL.ap_dBM, DL.ap_dBM0, DL.ap_dFn, DL.ap_dLc, DL.ap_dYes, DL.ap_dRg1, DL.ap_dRg2, DL.ap_dLrg, DL.ap_dTrg, DL.ap_iAny, DL.ap_iRng1, DL.ap_iRng2, DL.ap_iRng3, DL.ap_rng1P, DL.ap_rng2P, DL.ap_rng3P, DL.ap_iZip, DL.ap_dLzip, DL.ap_dZ2, DL.ap_iEnm, DL.ap_a1, DL.ap_a2, DL.ap_sqT, DL.ap_sqR, DL.ap_dNext, DL.ap_dSeq, DL.ap_dBreak, DL.ap_dCont, DL.ap_dDrop, DL.ap_dRet, DL.ap_dRetN, DL.ap_dIfS, DL.ap_dAsg, DL.ap_dPar, DL.ap_a3, DL.ap_dPar3, DL.ap_dAug, DL.ap_dAugS, DL.ap_dFor, DL.ap_gSet, DL.ap_gTup, DL.ap_gNil, DL.ap_gCons, DL.ap_gSub, DL.tr_non, DL.tr_bl, DL.tr_int, DL.tr_str, DL.tr_tup, DL.tr_ref, DL.ad_int, DL.ad_tup, DL.ad_ref, DL.sb_int, DL.mu_int, DL.mu_tup, DL.mu_ref, DL.fd_int, DL.md_int, DL.pw_int, DL.ng_int, DL.i2_int, DL.ci_int, DL.is_bl, DL.is_nn, DL.is_in, DL.is_tn, DL.is_rn, DL.is_sn, DL.ix_tup, DL.ix_ref, DL.ixl_ref, DL.sl_tup, DL.sl_lw, DL.sl_ref, DL.st_ref, DL.ap_append, DL.ap_extend, DL.ap_popI, DL.ap_pop0, DL.ty_ref, DL.ln_tup, DL.ln_ref, DL.ab_int, DL.in_int, DL.in_bl, DL.mn_int, DL.mx_int, DL.sm_of, DL.al_ref, DL.an_ref, DL.li_of, DL.tu_of, DL.so_ref, DL.getV_0, DL.getV_s, DL.set_0, DL.set_s, DL.startD_nil, DL.startD_cons, DL.rep_0, DL.rep_s, DL.wipe_nil, DL.wipe_cons, DL.isB_bl, DL.isN_int, DL.someD_some, DL.at0, DL.at1, DL.at2, DL.at3, DL.at4, DL.at5, DL.up1_same, DL.up_up]
      refine ap_dFnV (i := 1) rfl hT ?_
      try simp only [DL.ap_dC, DL.ap_dVar, DL.ap_dNil, DL.ap_dCons, DL.ap_dTup, DL.ap_dLst, DL.ap_dOp, DL.ap_dB, DL.ap_dChain, DL.ap_dTru, DL.ap_dAndT, DL.ap_dOrT, DL.ap_dNotT, DL.ap_dAndV, DL.ap_dOrV, DL.ap_dNotV, DL.ap_dIf, DL.ap_dUn, DL.ap_dCall, DL.ap_dNoPart, DL.ap_dPart, DL.ap_dSl, DL.ap_dBM, DL.ap_dBM0, DL.ap_dFn, DL.ap_dLc, DL.ap_dYes, DL.ap_dRg1, DL.ap_dRg2, DL.ap_dLrg, DL.ap_dTrg, DL.ap_iAny, DL.ap_iRng1, DL.ap_iRng2, DL.ap_iRng3, DL.ap_rng1P, DL.ap_rng2P, DL.ap_rng3P, DL.ap_iZip, DL.ap_dLzip, DL.ap_dZ2, DL.ap_iEnm, DL.ap_a1, DL.ap_a2, DL.ap_sqT, DL.ap_sqR, DL.ap_dNext, DL.ap_dSeq, DL.ap_dBreak, DL.ap_dCont, DL.ap_dDrop, DL.ap_dRet, DL.ap_dRetN, DL.ap_dIfS, DL.ap_dAsg, DL.ap_dPar, DL.ap_a3, DL.ap_dPar3, DL.ap_dAug, DL.ap_dAugS, DL.ap_dFor, DL.ap_gSet, DL.ap_gTup, DL.ap_gNil, DL.ap_gCons, DL.ap_gSub, DL.tr_non, DL.tr_bl, DL.tr_int, DL.tr_str, DL.tr_tup, DL.tr_ref, DL.ad_int, DL.ad_tup, DL.ad_ref, DL.sb_int, DL.mu_int, DL.mu_tup, DL.mu_ref, DL.fd_int, DL.md_int, DL.pw_int, DL.ng_int, DL.i2_int, DL.ci_int, DL.is_bl, DL.is_nn, DL.is_in, DL.is_tn, DL.is_rn, DL.is_sn, DL.ix_tup, DL.ix_ref, DL.ixl_ref, DL.sl_tup, DL.sl_lw, DL.sl_ref, DL.st_ref, DL.ap_append, DL.ap_extend, DL.ap_popI, DL.ap_pop0, DL.ty_ref, DL.ln_tup, DL.ln_ref, DL.ab_int, DL.in_int, DL.in_bl, DL.mn_int, DL.mx_int, DL.sm_of, DL.al_ref, DL.an_ref, DL.li_of, DL.tu_of, DL.so_ref, DL.getV_0, DL.getV_s, DL.set_0, DL.set_s, DL.startD_nil, DL.startD_cons, DL.rep_0, DL.rep_s, DL.wipe_nil, DL.wipe_cons, DL.isB_bl, DL.isN_int, DL.someD_some, DL.at0, DL.at1, DL.at2, DL.at3, DL.at4, DL.at5, DL.up1_same, DL.up_up]
      exact hm m hmem S1 _ _ h1 fun S2 h2 => hY S2 (h1.trans h2)
    · refine ⟨xs.map p, ?_, ?_⟩
      · rw [all_bl]; exact up1_same
      · rw [all_id]
        exact h _ (h1.trans (Ext.new hq))
  | fn _ => exact hk.elim
  | ty _ => exact hk.elim
  | lw _ => exact hk.elim
  | _ => exact h S (Ext.refl S)
theorem len_are_integers : ∀ ds S P EP, sp_are_integers ds S P EP → ds.length = 1 := by rintro _ S P EP ⟨x, rfl, _⟩; rfl
theorem pure_are_integers (tab : Str → Option FSp) (hT : tab "is_integer" = some sp_is_integer) : ∀ ds S Q EP, sp_are_integers ds S Q EP → d_are_integers tab EP { nx := fun _ S' => Q .non S', rt := Q } (startD 1 ds) S := by
  rintro ds S Q EP ⟨x, rfl, hk, h⟩
  unfold d_are_integers
  try simp only [DL.ap_dC, DL.ap_dVar, DL.ap_dNil, DL.ap_dCons, DL.ap_dTup, DL.ap_dLst, DL.ap_dOp, DL.ap_dB, DL.ap_dChain, DL.ap_dTru, DL.ap_dAndT, DL.ap_dOrT, DL.ap_dNotT, DL.ap_dAndV, DL.ap_dOrV, DL.ap_dNotV, DL.ap_dIf, DL.ap_dUn, DL.ap_dCall, DL.ap_dNoPart, DL.ap_dPart, DL.ap_dSl, DL.ap_dBM, DL.ap_dBM0, DL.ap_dFn, DL.ap_dLc, DL.ap_dYes, DL.ap_dRg1, DL.ap_dRg2, DL.ap_dLrg, DL.ap_dTrg, DL.ap_iAny, DL.ap_iRng1, DL.ap_iRng2, DL.ap_iRng3, DL.ap_rng1P, DL.ap_rng2P, DL.ap_rng3P, DL.ap_iZip, DL.ap_dLzip, DL.ap_dZ2, DL.ap_iEnm, DL.ap_a1, DL.ap_a2, DL.ap_sqT, DL.ap_sqR, DL.ap_dNext, DL.ap_dSeq, DL.ap_dBreak, DL.ap_dCont, DL.ap_dDrop, DL.ap_dRet, DL.ap_dRetN, DL.ap_dIfS, DL.ap_dAsg, DL.ap_dPar, DL.ap_a3, DL.ap_dPar3, DL.ap_dAug, DL.ap_dAugS, DL.ap_dFor, DL.ap_gSet, DL.ap_gTup, DL.ap_gNil, DL.ap_gCons, DL.ap_gSub, DL.tr_non, DL.tr_bl, DL.tr_int, DL.tr_str, DL.tr_tup, DL.tr_ref, DL.ad_int, DL.ad_tup, DL.ad_ref, DL.sb_int, DL.mu_int, DL.mu_tup, DL.mu_ref, DL.fd_int, DL.md_int, DL.pw_int, DL.ng_int, DL.i2_int, DL.ci_int, DL.is_bl, DL.is_nn, DL.is_in, DL.is_tn, DL.is_rn, DL.is_sn, DL.ix_tup, DL.ix_ref, DL.ixl_ref, DL.sl_tup, DL.sl_lw, DL.sl_ref, DL.st_ref, DL.ap_append, DL.ap_extend, DL.ap_popI, DL.ap_pop0, DL.ty_ref, DL.ln_tup, DL.ln_ref, DL.ab_int, DL.in_int, DL.in_bl, DL.mn_int, DL.mx_int, DL.sm_of, DL.al_ref, DL.an_ref, DL.li_of, DL.tu_of, DL.so_ref, DL.getV_0, DL.getV_s, DL.set_0, DL.set_s, DL.startD_nil, DL.startD_cons, DL.rep_0, DL.rep_s, DL.wipe_nil, DL.wipe_cons, DL.isB_bl, DL.isN_int, DL.someD_some, DL.at0, DL.at1, DL.at2, DL.at3, DL.at4, DL.at5, DL.up1_same, DL.up_up]
  refine ⟨x, _, _, isI, rfl, hT, hk.1, fun xs e => ⟨(hk.2 xs e).1, fun m hm S' Q' EP' h1 h2 => ⟨m, rfl, Kn.ext ((hk.2 xs e).2 m hm) h1, h2 S' (Ext.refl _)⟩⟩, h⟩
theorem len_kinds : ∀ ds S P EP, sp_kinds ds S P EP → ds.length = 1 := by rintro _ S P EP ⟨vs, r, rfl, _⟩; rfl
theorem pure_kinds : ∀ ds S Q EP, sp_kinds ds S Q EP → d_kinds EP { nx := fun _ S' => Q .non S', rt := Q } (startD 1 ds) S := by
  rintro ds S Q EP ⟨vs, r, rfl, h⟩
  unfold d_kinds
  try simp only [DL.ap_dC, DL.ap_dVar, DL.ap_dNil, DL.ap_dCons, DL.ap_dTup, DL.ap_dLst, DL.ap_dOp, DL.ap_dB, DL.ap_dChain, DL.ap_dTru, DL.ap_dAndT, DL.ap_dOrT, DL.ap_dNotT, DL.ap_dAndV, DL.ap_dOrV, DL.ap_dNotV, DL.ap_dIf, DL.ap_dUn, DL.ap_dCall, DL.ap_dNoPart, DL.ap_dPart, DL.ap_dSl, DL.ap_dBM, DL.ap_dBM0, DL.ap_dFn, DL.ap_dLc, DL.ap_dYes, DL.ap_dRg1, DL.ap_dRg2, DL.ap_dLrg, DL.ap_dTrg, DL.ap_iAny, DL.ap_iRng1, DL.ap_iRng2, DL.ap_iRng3, DL.ap_rng1P, DL.ap_rng2P, DL.ap_rng3P, DL.ap_iZip, DL.ap_dLzip, DL.ap_dZ2, DL.ap_iEnm, DL.ap_a1, DL.ap_a2, DL.ap_sqT, DL.ap_sqR, DL.ap_dNext, DL.ap_dSeq, DL.ap_dBreak, DL.ap_dCont, DL.ap_dDrop, DL.ap_dRet, DL.ap_dRetN, DL.ap_dIfS, DL.ap_dAsg, DL.ap_dPar, DL.ap_a3, DL.ap_dPar3, DL.ap_dAug, DL.ap_dAugS, DL.ap_dFor, DL.ap_gSet, DL.ap_gTup, DL.ap_gNil, DL.ap_gCons, DL.ap_gSub, DL.tr_non, DL.tr_bl, DL.tr_int, DL.tr_str, DL.tr_tup, DL.tr_ref, DL.ad_int, DL.ad_tup, DL.ad_ref, DL.sb_int, DL.mu_int, DL.mu_tup, DL.mu_ref, DL.fd_int, DL.md_int, DL.pw_int, DL.ng_int, DL.i2_int, DL.ci_int, DL.is_bl, DL.is_nn, DL.is_in, DL.is_tn, DL.is_rn, DL.is_sn, DL.ix_tup, DL.ix_ref, DL.ixl_ref, DL.sl_tup, DL.sl_lw, DL.sl_ref, DL.st_ref, DL.ap_append, DL.ap_extend, DL.ap_popI, DL.ap_pop0, DL.ty_ref, DL.ln_tup, DL.ln_ref, DL.ab_int, DL.in_int, DL.in_bl, DL.mn_int, DL.mx_int, DL.sm_of, DL.al_ref, DL.an_ref, DL.li_of, DL.tu_of, DL.so_ref, DL.getV_0, DL.getV_s, DL.set_0, DL.set_s, DL.startD_nil, DL.startD_cons, DL.rep_0, DL.rep_s, DL.wipe_nil, DL.wipe_cons, DL.isB_bl, DL.isN_int, DL.someD_some, DL.at0, DL.at1, DL.at2, DL.at3, DL.at4, DL.at5, DL.up1_same, DL.up_up]
  exact h
theorem len_is_row : ∀ ds S P EP, sp_is_row ds S P EP → ds.length = 2 := by rintro _ S P EP ⟨vs, r, x, rfl, _⟩; rfl
theorem pure_is_row : ∀ ds S Q EP, sp_is_row ds S Q EP → d_is_row EP { nx := fun _ S' => Q .non S', rt := Q } (startD 3 ds) S := by
  rintro ds S Q EP ⟨vs, r, x, rfl, hk, h⟩
  unfold d_is_row
  try simp only [DL.ap_dC, DL.ap_dVar, DL.ap_dNil, DL.ap_dCons, DL.ap_dTup, DL.ap_dLst, DL.ap_dOp, DL.ap_dB, DL.ap_dChain, DL.ap_dTru, DL.ap_dAndT, DL.ap_dOrT, DL.ap_dNotT, DL.ap_dAndV, DL.ap_dOrV, DL.ap_dNotV, DL.ap_dIf, DL.ap_dUn, DL.ap_dCall, DL.ap_dNoPart, DL.ap_dPart, DL.ap_dSl, DL.ap_dBM, DL.ap_dBM0, DL.ap_dFn, DL.ap_dLc, DL.ap_dYes, DL.ap_dRg1, DL.ap_dRg2, DL.ap_dLrg, DL.ap_dTrg, DL.ap_iAny, DL.ap_iRng1, DL.ap_iRng2, DL.ap_iRng3, DL.ap_rng1P, DL.ap_rng2P, DL.ap_rng3P, DL.ap_iZip, DL.ap_dLzip, DL.ap_dZ2, DL.ap_iEnm, DL.ap_a1, DL.ap_a2, DL.ap_sqT, DL.ap_sqR, DL.ap_dNext, DL.ap_dSeq, DL.ap_dBreak, DL.ap_dCont, DL.ap_dDrop, DL.ap_dRet, DL.ap_dRetN, DL.ap_dIfS, DL.ap_dAsg, DL.ap_dPar, DL.ap_a3, DL.ap_dPar3, DL.ap_dAug, DL.ap_dAugS, DL.ap_dFor, DL.ap_gSet, DL.ap_gTup, DL.ap_gNil, DL.ap_gCons, DL.ap_gSub, DL.tr_non, DL.tr_bl, DL.tr_int, DL.tr_str, DL.tr_tup, DL.tr_ref, DL.ad_int, DL.ad_tup, DL.ad_ref, DL.sb_int, DL.mu_int, DL.mu_tup, DL.mu_ref, DL.fd_int, DL.md_int, DL.pw_int, DL.ng_int, DL.i2_int, DL.ci_int, DL.is_bl, DL.is_nn, DL.is_in, DL.is_tn, DL.is_rn, DL.is_sn, DL.ix_tup, DL.ix_ref, DL.ixl_ref, DL.sl_tup, DL.sl_lw, DL.sl_ref, DL.st_ref, DL.ap_append, DL.ap_extend, DL.ap_popI, DL.ap_pop0, DL.ty_ref, DL.ln_tup, DL.ln_ref, DL.ab_int, DL.in_int, DL.in_bl, DL.mn_int, DL.mx_int, DL.sm_of, DL.al_ref, DL.an_ref, DL.li_of, DL.tu_of, DL.so_ref, DL.getV_0, DL.getV_s, DL.set_0, DL.set_s, DL.startD_nil, DL.startD_cons, DL.rep_0, DL.rep_s, DL.wipe_nil, DL.wipe_cons, DL.isB_bl, DL.isN_int, DL.someD_some, DL.at0, DL.at1, DL.at2, DL.at3, DL.at4, DL.at5, DL.up1_same, DL.up_up]
  refine ⟨x, rfl, hk, fun S1 h1 => ?_⟩
  try simp only [DL.ap_dC, DL.ap_dVar, DL.ap_dNil, DL.ap_dCons, DL.ap_dTup, DL.ap_dLst, DL.ap_dOp, DL.ap_dB, DL.ap_dChain, DL.ap_dTru, DL.ap_dAndT, DL.ap_dOrT, DL.ap_dNotT, DL.ap_dAndV, DL.ap_dOrV, DL.ap_dNotV, DL.ap_dIf, DL.ap_dUn, DL.ap_dCall, DL.ap_dNoPart, DL.ap_dPart, DL.ap_dSl, DL.ap_dBM, DL.ap_dBM0, DL.ap_dFn, DL.ap_dLc, DL.ap_dYes, DL.ap_dRg1, DL.ap_dRg2, DL.ap_dLrg, DL.ap_dTrg, DL.ap_iAny, DL.ap_iRng1, DL.ap_iRng2, DL.ap_iRng3, DL.ap_rng1P, DL.ap_rng2P, DL.ap_rng3P, DL.ap_iZip, DL.ap_dLzip, DL.ap_dZ2, DL.ap_iEnm, DL.ap_a1, DL.ap_a2, DL.ap_sqT, DL.ap_sqR, DL.ap_dNext, DL.ap_dSeq, DL.ap_dBreak, DL.ap_dCont, DL.ap_dDrop, DL.ap_dRet, DL.ap_dRetN, DL.ap_dIfS, DL.ap_dAsg, DL.ap_dPar, DL.ap_a3, DL.ap_dPar3, DL.ap_dAug, DL.ap_dAugS, DL.ap_dFor, DL.ap_gSet, DL.ap_gTup, DL.ap_gNil, DL.ap_gCons, DL.ap_gSub, DL.tr_non, DL.tr_bl, DL.tr_int, DL.tr_str, DL.tr_tup, DL.tr_ref, DL.ad_int, DL.ad_tup, DL.ad_ref, DL.sb_int, DL.mu_int, DL.mu_tup, DL.mu_ref, DL.fd_int, DL.md_int, DL.pw_int, DL.ng_int, DL.i2_int, DL.ci_int, DL.is_bl, DL.is_nn, DL.is_in, DL.is_tn, DL.is_rn, DL.is_sn, DL.ix_tup, DL.ix_ref, DL.ixl_ref, DL.sl_tup, DL.sl_lw, DL.sl_ref, DL.st_ref, DL.ap_append, DL.ap_extend, DL.ap_popI, DL.ap_pop0, DL.ty_ref, DL.ln_tup, DL.ln_ref, DL.ab_int, DL.in_int, DL.in_bl, DL.mn_int, DL.mx_int, DL.sm_of, DL.al_ref, DL.an_ref, DL.li_of, DL.tu_of, DL.so_ref, DL.getV_0, DL.getV_s, DL.set_0, DL.set_s, DL.startD_nil, DL.startD_cons, DL.rep_0, DL.rep_s, DL.wipe_nil, DL.wipe_cons, DL.isB_bl, DL.isN_int, DL.someD_some, DL.at0, DL.at1, DL.at2, DL.at3, DL.at4, DL.at5, DL.up1_same, DL.up_up]
  by_cases c : allT isI x = true
  · rw [if_pos c]
    obtain ⟨ns, rfl⟩ := allT_isI c
    try simp only [DL.ap_dC, DL.ap_dVar, DL.ap_dNil, DL.ap_dCons, DL.ap_dTup, DL.ap_dLst, DL.ap_dOp, DL.ap_dB, DL.ap_dChain, DL.ap_dTru, DL.ap_dAndT, DL.ap_dOrT, DL.ap_dNotT, DL.ap_dAndV, DL.ap_dOrV, DL.ap_dNotV, DL.ap_dIf, DL.ap_dUn, DL.ap_dCall, DL.ap_dNoPart, DL.ap_dPart, DL.ap_dSl, DL.ap_dBM, DL.ap_dBM0, DL.ap_dFn, DL.ap_dLc, DL.ap_dYes, DL.ap_dRg1, DL.ap_dRg2, DL.ap_dLrg, DL.ap_dTrg, DL.ap_iAny, DL.ap_iRng1, DL.ap_iRng2, DL.ap_iRng3, DL.ap_rng1P, DL.ap_rng2P, DL.ap_rng3P, DL.ap_iZip, DL.ap_dLzip, DL.ap_dZ2, DL.ap_iEnm, DL.ap_a1, DL.ap_a2, DL.ap_sqT, DL.ap_sqR, DL.ap_dNext, DL.ap_dSeq, DL.ap_dBreak, DL.ap_dCont, DL.ap_dDrop, DL.ap_dRet, DL.ap_dRetN, DL.ap_dIfS, DL.ap_dAsg, DL.ap_dPar, DL.ap_a3, DL.ap_dPar3, DL.ap_dAug, DL.ap_dAugS, DL.ap_dFor, DL.ap_gSet, DL.ap_gTup, DL.ap_gNil, DL.ap_gCons, DL.ap_gSub, DL.tr_non, DL.tr_bl, DL.tr_int, DL.tr_str, DL.tr_tup, DL.tr_ref, DL.ad_int, DL.ad_tup, DL.ad_ref, DL.sb_int, DL.mu_int, DL.mu_tup, DL.mu_ref, DL.fd_int, DL.md_int, DL.pw_int, DL.ng_int, DL.i2_int, DL.ci_int, DL.is_bl, DL.is_nn, DL.is_in, DL.is_tn, DL.is_rn, DL.is_sn, DL.ix_tup, DL.ix_ref, DL.ixl_ref, DL.sl_tup, DL.sl_lw, DL.sl_ref, DL.st_ref, DL.ap_append, DL.ap_extend, DL.ap_popI, DL.ap_pop0, DL.ty_ref, DL.ln_tup, DL.ln_ref, DL.ab_int, DL.in_int, DL.in_bl, DL.mn_int, DL.mx_int, DL.sm_of, DL.al_ref, DL.an_ref, DL.li_of, DL.tu_of, DL.so_ref, DL.getV_0, DL.getV_s, DL.set_0, DL.set_s, DL.startD_nil, DL.startD_cons, DL.rep_0, DL.rep_s, DL.wipe_nil, DL.wipe_cons, DL.isB_bl, DL.isN_int, DL.someD_some, DL.at0, DL.at1, DL.at2, DL.at3, DL.at4, DL.at5, DL.up1_same, DL.up_up]
    refine ⟨vs, r, rfl, eq_ints ?_⟩
    try simp only [DL.ap_dC, DL.ap_dVar, DL.ap_dNil, DL.ap_dCons, DL.ap_dTup, DL.ap_dLst, DL.ap_dOp, DL.ap_dB, DL.ap_dChain, DL.ap_dTru, DL.ap_dAndT, DL.ap_dOrT, DL.ap_dNotT, DL.ap_dAndV, DL.ap_dOrV, DL.ap_dNotV, DL.ap_dIf, DL.ap_dUn, DL.ap_dCall, DL.ap_dNoPart, DL.ap_dPart, DL.ap_dSl, DL.ap_dBM, DL.ap_dBM0, DL.ap_dFn, DL.ap_dLc, DL.ap_dYes, DL.ap_dRg1, DL.ap_dRg2, DL.ap_dLrg, DL.ap_dTrg, DL.ap_iAny, DL.ap_iRng1, DL.ap_iRng2, DL.ap_iRng3, DL.ap_rng1P, DL.ap_rng2P, DL.ap_rng3P, DL.ap_iZip, DL.ap_dLzip, DL.ap_dZ2, DL.ap_iEnm, DL.ap_a1, DL.ap_a2, DL.ap_sqT, DL.ap_sqR, DL.ap_dNext, DL.ap_dSeq, DL.ap_dBreak, DL.ap_dCont, DL.ap_dDrop, DL.ap_dRet, DL.ap_dRetN, DL.ap_dIfS, DL.ap_dAsg, DL.ap_dPar, DL.ap_a3, DL.ap_dPar3, DL.ap_dAug, DL.ap_dAugS, DL.ap_dFor, DL.ap_gSet, DL.ap_gTup, DL.ap_gNil, DL.ap_gCons, DL.ap_gSub, DL.tr_non, DL.tr_bl, DL.tr_int, DL.tr_str, DL.tr_tup, DL.tr_ref, DL.ad_int, DL.ad_tup, DL.ad_ref, DL.sb_int, DL.mu_int, DL.mu_tup, DL.mu_ref, DL.fd_int, DL.md_int, DL.pw_int, DL.ng_int, DL.i2_int, DL.ci_int, DL.is_bl, DL.is_nn, DL.is_in, DL.is_tn, DL.is_rn, DL.is_sn, DL.ix_tup, DL.ix_ref, DL.ixl_ref, DL.sl_tup, DL.sl_lw, DL.sl_ref, DL.st_ref, DL.ap_append, DL.ap_extend, DL.ap_popI, DL.ap_pop0, DL.ty_ref, DL.ln_tup, DL.ln_ref, DL.ab_int, DL.in_int, DL.in_bl, DL.mn_int, DL.mx_int, DL.sm_of, DL.al_ref, DL.an_ref, DL.li_of, DL.tu_of, DL.so_ref, DL.getV_0, DL.getV_s, DL.set_0, DL.set_s, DL.startD_nil, DL.startD_cons, DL.rep_0, DL.rep_s, DL.wipe_nil, DL.wipe_cons, DL.isB_bl, DL.isN_int, DL.someD_some, DL.at0, DL.at1, DL.at2, DL.at3, DL.at4, DL.at5, DL.up1_same, DL.up_up]
    simp only [List.length_map]
    by_cases c2 : ns.length = vs.length
    · rw [if_pos (by simp [c2])]
      try simp only [DL.ap_dC, DL.ap_dVar, DL.ap_dNil, DL.ap_dCons, DL.ap_dTup, DL.ap_dLst, DL.ap_dOp, DL.ap_dB, DL.ap_dChain, DL.ap_dTru, DL.ap_dAndT, DL.ap_dOrT, DL.ap_dNotT, DL.ap_dAndV, DL.ap_dOrV, DL.ap_dNotV, DL.ap_dIf, DL.ap_dUn, DL.ap_dCall, DL.ap_dNoPart, DL.ap_dPart, DL.ap_dSl, DL.ap_dBM, DL.ap_dBM0, DL.ap_dFn, DL.ap_dLc, DL.ap_dYes, DL.ap_dRg1, DL.ap_dRg2, DL.ap_dLrg, DL.ap_dTrg, DL.ap_iAny, DL.ap_iRng1, DL.ap_iRng2, DL.ap_iRng3, DL.ap_rng1P, DL.ap_rng2P, DL.ap_rng3P, DL.ap_iZip, DL.ap_dLzip, DL.ap_dZ2, DL.ap_iEnm, DL.ap_a1, DL.ap_a2, DL.ap_sqT, DL.ap_sqR, DL.ap_dNext, DL.ap_dSeq, DL.ap_dBreak, DL.ap_dCont, DL.ap_dDrop, DL.ap_dRet, DL.ap_dRetN, DL.ap_dIfS, DL.ap_dAsg, DL.ap_dPar, DL.ap_a3, DL.ap_dPar3, DL.ap_dAug, DL.ap_dAugS, DL.ap_dFor, DL.ap_gSet, DL.ap_gTup, DL.ap_gNil, DL.ap_gCons, DL.ap_gSub, DL.tr_non, DL.tr_bl, DL.tr_int, DL.tr_str, DL.tr_tup, DL.tr_ref, DL.ad_int, DL.ad_tup, DL.ad_ref, DL.sb_int, DL.mu_int, DL.mu_tup, DL.mu_ref, DL.fd_int, DL.md_int, DL.pw_int, DL.ng_int, DL.i2_int, DL.ci_int, DL.is_bl, DL.is_nn, DL.is_in, DL.is_tn, DL.is_rn, DL.is_sn, DL.ix_tup, DL.ix_ref, DL.ixl_ref, DL.sl_tup, DL.sl_lw, DL.sl_ref, DL.st_ref, DL.ap_append, DL.ap_extend, DL.ap_popI, DL.ap_pop0, DL.ty_ref, DL.ln_tup, DL.ln_ref, DL.ab_int, DL.in_int, DL.in_bl, DL.mn_int, DL.mx_int, DL.sm_of, DL.al_ref, DL.an_ref, DL.li_of, DL.tu_of, DL.so_ref, DL.getV_0, DL.getV_s, DL.set_0, DL.set_s, DL.startD_nil, DL.startD_cons, DL.rep_0, DL.rep_s, DL.wipe_nil, DL.wipe_cons, DL.isB_bl, DL.isN_int, DL.someD_some, DL.at0, DL.at1, DL.at2, DL.at3, DL.at4, DL.at5, DL.up1_same, DL.up_up]
      refine ⟨by simpa using (hk.2 _ rfl).1, lc_map D.int (fun i => D.bl (decide (0 ≤ i))) (fun S' => Ext S S') (fun _ _ => trivial) ns (fun m hmem S2 Y h2 hY => ?_) S1 _ h1 fun S2 h2 q hq => ?_⟩
      · try simp only [DL.ap_dC, DL.ap_dVar, DL.ap_dNil, DL.ap_dCons, DL.ap_dTup, DL.ap_dLst, DL.ap_dOp, DL.ap_dB, DL.ap_dChain, DL.ap_dTru, DL.ap_dAndT, DL.ap_dOrT, DL.ap_dNotT, DL.ap_dAndV, DL.ap_dOrV, DL.ap_dNotV, DL.ap_dIf, DL.ap_dUn, DL.ap_dCall, DL.ap_dNoPart, DL.ap_dPart, DL.ap_dSl, DL.ap_dBM, DL.ap_dBM0, DL.ap_dFn, DL.ap_dLc, DL.ap_dYes, DL.ap_dRg1, DL.ap_dRg2, DL.ap_dLrg, DL.ap_dTrg, DL.ap_iAny, DL.ap_iRng1, DL.ap_iRng2, DL.ap_iRng3, DL.ap_rng1P, DL.ap_rng2P, DL.ap_rng3P, DL.ap_iZip, DL.ap_dLzip, DL.ap_dZ2, DL.ap_iEnm, DL.ap_a1, DL.ap_a2, DL.ap_sqT, DL.ap_sqR, DL.ap_dNext, DL.ap_dSeq, DL.ap_dBreak, DL.ap_dCont, DL.ap_dDrop, DL.ap_dRet, DL.ap_dRetN, DL.ap_dIfS, DL.ap_dAsg, DL.ap_dPar, DL.ap_a3, DL.ap_dPar3, DL.ap_dAug, DL.ap_dAugS, DL.ap_dFor, DL.ap_gSet, DL.ap_gTup, DL.ap_gNil, DL.ap_gCons, DL.ap_gSub, DL.tr_non, DL.tr_bl, DL.tr_int, DL.tr_str, DL.tr_tup, DL.tr_ref, DL.ad_int, DL.ad_tup, DL.ad_ref, DL.sb_int, DL.mu_int, DL.mu_tup, DL.mu_ref, DL.fd_int, DL.md_int, DL.pw_int, DL.ng_int, DL.i2_int, DL.ci_int, DL.is_bl, DL.is_nn, DL.is_in, DL.is_tn, DL.is_rn, DL.is_sn, DL.ix_tup, DL.ix_ref, DL.ixl_ref, DL.sl_tup, DL.sl_lw, DL.sl_ref, DL.st_ref, DL.ap_append, DL.ap_extend, DL.ap_popI, DL.ap_pop0, DL.ty_ref, DL.ln_tup, DL.ln_ref, DL.ab_int, DL.in_int, DL.in_bl, DL.mn_int, DL.mx_int, DL.sm_of, DL.al_ref, DL.an_ref, DL.li_of, DL.tu_of, DL.so_ref, DL.getV_0, DL.getV_s, DL.set_0, DL.set_s, DL.startD_nil, DL.startD_cons, DL.rep_0, DL.rep_s, DL.wipe_nil, DL.wipe_cons, DL.isB_bl, DL.isN_int, DL.someD_some, DL.at0, DL.at1, DL.at2, DL.at3, DL.at4, DL.at5, DL.up1_same, DL.up_up]
        exact hY S2 h2
      · refine ⟨ns.map fun i => decide (0 ≤ i), ?_, ?_⟩
        · rw [List.map_map]; exact up1_same
        · rw [isRow_tI, decide_eq_true c2, Bool.true_and] at h
          rw [all_id]
          exact h _ (h2.trans (Ext.new hq))
    · rw [if_neg (by simp; omega)]
      have := h _ h1
      rw [isRow_tI, decide_eq_false c2, Bool.false_and] at this
      rw [decide_eq_false (by omega)]
      exact this
  · rw [if_neg c]
    have := h _ h1
    have e : isRow vs.length x = allT isI x := by
      have c' : allT isI x = false := by simpa using c
      rw [c']
      cases x <;> first
        | rfl
        | (simp only [allT] at c'; simp [isRow, c'])
    rw [e] at this
    exact this
/-- pairs -/
def enc2 (p : Int × Int) : D := .tup [.int p.1, .int p.2]
theorem zipD_ints : ∀ xs ys : List Int, zipD (xs.map D.int) (ys.map D.int) = (xs.zip ys).map enc2
  | [], _ => by simp [zipD]
  | _ :: _, [] => by simp [zipD]
  | x :: xs, y :: ys => by
    show D.tup [.int x, .int y] :: zipD (xs.map D.int) (ys.map D.int) = _
    rw [zipD_ints xs ys]; rfl
theorem worthZ_sum : ∀ vs rs : List Int, ((vs.zip rs).map fun p => p.1 * p.2).sum = worthZ vs rs
  | [], _ => by simp [worthZ]
  | _ :: _, [] => by simp [worthZ]
  | v :: vs, r :: rs => by
    show v * r + ((vs.zip rs).map fun p => p.1 * p.2).sum = _
    rw [worthZ_sum vs rs]; rfl
theorem len_worth : ∀ ds S P EP, sp_worth ds S P EP → ds.length = 2 := by rintro _ S P EP ⟨vs, rs, r, rfl, _⟩; rfl
theorem pure_worth : ∀ ds S Q EP, sp_worth ds S Q EP → d_worth EP { nx := fun _ S' => Q .non S', rt := Q } (startD 4 ds) S := by
  rintro ds S Q EP ⟨vs, rs, r, rfl, hs, hl, h⟩
  unfold d_worth
  try simp only [DL.ap_dC, DL.ap_dVar, DL.ap_dNil, DL.ap_dCons, DL.ap_dTup, DL.ap_dLst, DL.ap_dOp, DL.ap_dB, DL.ap_dChain, DL.ap_dTru, DL.ap_dAndT, DL.ap_dOrT, DL.ap_dNotT, DL.ap_dAndV, DL.ap_dOrV, DL.ap_dNotV, DL.ap_dIf, DL.ap_dUn, DL.ap_dCall, DL.ap_dNoPart, DL.ap_dPart, DL.ap_dSl, DL.ap_dBM, DL.ap_dBM0, DL.ap_dFn, DL.ap_dLc, DL.ap_dYes, DL.ap_dRg1, DL.ap_dRg2, DL.ap_dLrg, DL.ap_dTrg, DL.ap_iAny, DL.ap_iRng1, DL.ap_iRng2, DL.ap_iRng3, DL.ap_rng1P, DL.ap_rng2P, DL.ap_rng3P, DL.ap_iZip, DL.ap_dLzip, DL.ap_dZ2, DL.ap_iEnm, DL.ap_a1, DL.ap_a2, DL.ap_sqT, DL.ap_sqR, DL.ap_dNext, DL.ap_dSeq, DL.ap_dBreak, DL.ap_dCont, DL.ap_dDrop, DL.ap_dRet, DL.ap_dRetN, DL.ap_dIfS, DL.ap_dAsg, DL.ap_dPar, DL.ap_a3, DL.ap_dPar3, DL.ap_dAug, DL.ap_dAugS, DL.ap_dFor, DL.ap_gSet, DL.ap_gTup, DL.ap_gNil, DL.ap_gCons, DL.ap_gSub, DL.tr_non, DL.tr_bl, DL.tr_int, DL.tr_str, DL.tr_tup, DL.tr_ref, DL.ad_int, DL.ad_tup, DL.ad_ref, DL.sb_int, DL.mu_int, DL.mu_tup, DL.mu_ref, DL.fd_int, DL.md_int, DL.pw_int, DL.ng_int, DL.i2_int, DL.ci_int, DL.is_bl, DL.is_nn, DL.is_in, DL.is_tn, DL.is_rn, DL.is_sn, DL.ix_tup, DL.ix_ref, DL.ixl_ref, DL.sl_tup, DL.sl_lw, DL.sl_ref, DL.st_ref, DL.ap_append, DL.ap_extend, DL.ap_popI, DL.ap_pop0, DL.ty_ref, DL.ln_tup, DL.ln_ref, DL.ab_int, DL.in_int, DL.in_bl, DL.mn_int, DL.mx_int, DL.sm_of, DL.al_ref, DL.an_ref, DL.li_of, DL.tu_of, DL.so_ref, DL.getV_0, DL.getV_s, DL.set_0, DL.set_s, DL.startD_nil, DL.startD_cons, DL.rep_0, DL.rep_s, DL.wipe_nil, DL.wipe_cons, DL.isB_bl, DL.isN_int, DL.someD_some, DL.at0, DL.at1, DL.at2, DL.at3, DL.at4, DL.at5, DL.up1_same, DL.up_up]
  rw [zipD_ints, List.length_map]
  refine ⟨by rw [List.length_zip]; omega, lc_map enc2 (fun p => D.int (p.1 * p.2)) (fun S' => Ext S S') (fun _ _ => ⟨trivial, trivial⟩) _ (fun p hp S2 Y h2 hY => ?_) S _ (Ext.refl S) fun S2 h2 q hq => ?_⟩
  · unfold enc2
    try simp only [DL.ap_dC, DL.ap_dVar, DL.ap_dNil, DL.ap_dCons, DL.ap_dTup, DL.ap_dLst, DL.ap_dOp, DL.ap_dB, DL.ap_dChain, DL.ap_dTru, DL.ap_dAndT, DL.ap_dOrT, DL.ap_dNotT, DL.ap_dAndV, DL.ap_dOrV, DL.ap_dNotV, DL.ap_dIf, DL.ap_dUn, DL.ap_dCall, DL.ap_dNoPart, DL.ap_dPart, DL.ap_dSl, DL.ap_dBM, DL.ap_dBM0, DL.ap_dFn, DL.ap_dLc, DL.ap_dYes, DL.ap_dRg1, DL.ap_dRg2, DL.ap_dLrg, DL.ap_dTrg, DL.ap_iAny, DL.ap_iRng1, DL.ap_iRng2, DL.ap_iRng3, DL.ap_rng1P, DL.ap_rng2P, DL.ap_rng3P, DL.ap_iZip, DL.ap_dLzip, DL.ap_dZ2, DL.ap_iEnm, DL.ap_a1, DL.ap_a2, DL.ap_sqT, DL.ap_sqR, DL.ap_dNext, DL.ap_dSeq, DL.ap_dBreak, DL.ap_dCont, DL.ap_dDrop, DL.ap_dRet, DL.ap_dRetN, DL.ap_dIfS, DL.ap_dAsg, DL.ap_dPar, DL.ap_a3, DL.ap_dPar3, DL.ap_dAug, DL.ap_dAugS, DL.ap_dFor, DL.ap_gSet, DL.ap_gTup, DL.ap_gNil, DL.ap_gCons, DL.ap_gSub, DL.tr_non, DL.tr_bl, DL.tr_int, DL.tr_str, DL.tr_tup, DL.tr_ref, DL.ad_int, DL.ad_tup, DL.ad_ref, DL.sb_int, DL.mu_int, DL.mu_tup, DL.mu_ref, DL.fd_int, DL.md_int, DL.pw_int, DL.ng_int, DL.i2_int, DL.ci_int, DL.is_bl, DL.is_nn, DL.is_in, DL.is_tn, DL.is_rn, DL.is_sn, DL.ix_tup, DL.ix_ref, DL.ixl_ref, DL.sl_tup, DL.sl_lw, DL.sl_ref, DL.st_ref, DL.ap_append, DL.ap_extend, DL.ap_popI, DL.ap_pop0, DL.ty_ref, DL.ln_tup, DL.ln_ref, DL.ab_int, DL.in_int, DL.in_bl, DL.mn_int, DL.mx_int, DL.sm_of, DL.al_ref, DL.an_ref, DL.li_of, DL.tu_of, DL.so_ref, DL.getV_0, DL.getV_s, DL.set_0, DL.set_s, DL.startD_nil, DL.startD_cons, DL.rep_0, DL.rep_s, DL.wipe_nil, DL.wipe_cons, DL.isB_bl, DL.isN_int, DL.someD_some, DL.at0, DL.at1, DL.at2, DL.at3, DL.at4, DL.at5, DL.up1_same, DL.up_up]
    exact ⟨rfl, .inl (.inl (hs _ (List.of_mem_zip hp).1)), hY S2 h2⟩
  · refine lstAt_of up1_same ⟨(vs.zip rs).map fun p => p.1 * p.2, by rw [List.map_map]; rfl, ?_⟩
    rw [worthZ_sum]
    exact h _ (h2.trans (Ext.new hq))
theorem len__law_worth : ∀ ds S P EP, sp__law_worth ds S P EP → ds.length = 2 := len_worth
theorem pure__law_worth : ∀ ds S Q EP, sp__law_worth ds S Q EP → d__law_worth EP { nx := fun _ S' => Q .non S', rt := Q } (startD 4 ds) S := pure_worth
end Ca

set_option Elab.async false
set_option linter.all false
set_option maxRecDepth 100000
set_option maxHeartbeats 4000000
/-! the bag of a law: draws -/
namespace Cb
open PySem DL L2 Ca
def sp__law_is_row : FSp := sp_is_row
def sp__law_below : FSp := fun ds S Q _ => ∃ xs ys : List Int, ds = [tI xs, tI ys] ∧ xs.length ≤ sizeLine ∧ ∀ S', Ext S S' → Q (.bl ((xs.zip ys).all fun p => decide (p.1 ≤ p.2))) S'
/-- the bag of draws at a -/
def Bag (a c : Addr) (S : Sto) : Prop := ∃ (b0 b1 b2 : Int) (ns : List Int), S a = some (.lst [.int b0, .int b1, .int b2, .ref c]) ∧ S c = some (.lst (ns.map D.int)) ∧ 0 ≤ b0 ∧ 0 ≤ b1 ∧ b1 ≤ 2147483647 ∧ 0 ≤ b2 ∧ ns.length ≤ 63 ∧ ∀ n ∈ ns, 0 ≤ n
def sp__law_bag : FSp := fun ds S Q _ => ∃ ns : List Int, ds = [.lw (ns.map D.int)] ∧ ∀ a c S', Ext S S' → S a = none → S c = none → Bag a c S' → Q (.ref a) S'
def sp__law_take : FSp := fun ds S Q _ => ∃ (a c : Addr) (m : Int), ds = [.ref a, .int m] ∧ Bag a c S ∧ 0 < m ∧ m ≤ 1000000000000 ∧ ∀ v S', 0 ≤ v → v < m → Bag a c S' → ExtB a S S' → Q (.int v) S'
def d__law_is_row_1 (EP : Exc → Sto → Prop) : DS :=
  (dRet (dOp dEq (dLc (iAny (dVar 1)) (gSet 2) (dOrT (dNotT (dTru (dFn Ca.sp__law_is_int xNo (dCons (dVar 2) dNil)))) (dB (dOp (dCmpI (fun i j => decide (i < j))) (dVar 2) (dC (.int 0))))) (dC (.int 1)) [2]) (dLst dNil)))
def d__law_is_row (EP : Exc → Sto → Prop) : DS :=
  (dSeq (dIfS (dOrT (dNotT (dTru (dCall dIsi (dCons (dVar 1) (dCons (dC (.ty "tuple")) dNil))))) (dB (dOp dNe (dCall dLen (dCons (dVar 1) dNil)) (dCall dLen (dCons (dOp dIx (dVar 0) (dC (.int 0))) dNil))))) (dRet (dC (.bl false))) dNext)
  (d__law_is_row_1 EP))
def d__law_bag (EP : Exc → Sto → Prop) : DS :=
  (dRet (dLst (dCons (dC (.int 0)) (dCons (dC (.int 1234567891)) (dCons (dC (.int 0)) (dCons (dLc (iAny (dSl dSlc (dVar 0) dNoPart (dPart (dC (.int 63))))) (gSet 1) dYes (dCall dAbs (dCons (dVar 1) dNil)) [1]) dNil))))))
def d__law_take_1 (EP : Exc → Sto → Prop) : DS :=
  (dAsg (dOp dMod (dCall dInt (dCons (dVar 3) dNil)) (dC (.int 2147483647))) (gSub dSetL (dVar 0) (dC (.int 1))))
def d__law_take_2 (EP : Exc → Sto → Prop) : DS :=
  (dSeq (dAsg (dOp dAdd (dOp dAdd (dOp dMul (dOp dIx (dVar 0) (dC (.int 1))) (dC (.int 48271))) (dOp dMod (dCall dInt (dCons (dVar 2) dNil)) (dC (.int 2147483647)))) (dOp dMul (dC (.int 7919)) (dOp dIx (dVar 0) (dC (.int 2))))) (gSet 3))
  (d__law_take_1 EP))
def d__law_take_3 (EP : Exc → Sto → Prop) : DS :=
  (dSeq (dIfS (dB (dOp (dCmpI (fun i j => decide (j ≤ i))) (dVar 2) (dOp dPow (dC (.int 10)) (dC (.int 18))))) (dAsg (dVar 2) (gSub dSetL (dVar 0) (dC (.int 0)))) dNext)
  (d__law_take_2 EP))
def d__law_take_4 (EP : Exc → Sto → Prop) : DS :=
  (dSeq (dAugS dIxL (dI2 fun i j => i + j) dSetL (dVar 0) (dC (.int 2)) (dC (.int 1)))
  (d__law_take_3 EP))
def d__law_take_5 (EP : Exc → Sto → Prop) : DS :=
  (dSeq (dAsg (dOp dFdiv (dCall dInt (dCons (dOp dIx (dVar 0) (dC (.int 0))) dNil)) (dVar 1)) (gSub dSetL (dVar 0) (dC (.int 0))))
  (dRet (dVar 4)))
def d__law_take_6 (EP : Exc → Sto → Prop) : DS :=
  (dRet (dOp dMod (dCall dInt (dCons (dOp dFdiv (dVar 6) (dC (.int 7))) dNil)) (dVar 1)))
def d__law_take_7 (EP : Exc → Sto → Prop) : DS :=
  (dSeq (dAsg (dOp dMod (dCall dInt (dCons (dOp dMul (dOp dMod (dCall dInt (dCons (dOp dMul (dVar 5) (dVar 5)) dNil)) (dC (.int 998244353))) (dC (.int 30011))) dNil)) (dC (.int 998244353))) (gSet 6))
  (d__law_take_6 EP))
def d__law_take_8 (EP : Exc → Sto → Prop) : DS :=
  (dSeq (dAsg (dOp dMod (dCall dInt (dCons (dOp dMul (dOp dAdd (dOp dIx (dVar 0) (dC (.int 1))) (dC (.int 1))) (dC (.int 39373))) dNil)) (dC (.int 1000000007))) (gSet 5))
  (d__law_take_7 EP))
def d__law_take_9 (EP : Exc → Sto → Prop) : DS :=
  (dSeq (dIfS (dB (dOp (dCmpI (fun i j => decide (j < i))) (dOp dIx (dVar 0) (dC (.int 0))) (dC (.int 0)))) (dSeq (dAsg (dOp dMod (dCall dInt (dCons (dOp dIx (dVar 0) (dC (.int 0))) dNil)) (dVar 1)) (gSet 4))
  (d__law_take_5 EP)) dNext)
  (d__law_take_8 EP))
def d__law_take (EP : Exc → Sto → Prop) : DS :=
  (dSeq (dIfS (dB (dOp dEq (dOp dIx (dVar 0) (dC (.int 0))) (dC (.int 0)))) (dSeq (dAsg (dOp dIx (dOp dAdd (dSl dSlc (dOp dIx (dVar 0) (dC (.int 3))) (dPart (dOp dIx (dVar 0) (dC (.int 2)))) dNoPart) (dLst (dCons (dC (.int 0)) dNil))) (dC (.int 0))) (gSet 2))
  (d__law_take_4 EP)) dNext)
  (d__law_take_9 EP))
def d__law_below (EP : Exc → Sto → Prop) : DS :=
  (dRet (dOp dEq (dLc (iZip (dCons (dVar 0) (dCons (dVar 1) dNil))) (gTup 2 (gCons (gSet 2) (gCons (gSet 3) gNil))) (dB (dOp (dCmpI (fun i j => decide (j < i))) (dVar 2) (dVar 3))) (dC (.int 1)) [2, 3]) (dLst dNil)))

theorem LA.ne {S : Sto} {a c : Addr} {xs ys : List D} (h : S a = some (.lst xs)) (h' : S c = some (.lst ys)) (n : xs ≠ ys) : a ≠ c := ne_cell h h' fun e => n (by cases e; rfl)
theorem int_ne_bag {ns : List Int} {x y z : Int} {c : Addr} : ns.map D.int ≠ [.int x, .int y, .int z, .ref c] := fun e => by
  have := congrArg (fun l => l[3]?) e
  simp only [List.getElem?_map] at this
  cases h : ns[3]? <;> rw [h] at this <;> simp at this
/-- the bag's own cells are written -/
theorem Bag.put {a c : Addr} {S : Sto} {b0 b1 b2 b0' b1' b2' : Int} {ns : List Int} (h : S a = some (.lst [.int b0, .int b1, .int b2, .ref c])) (hc : S c = some (.lst (ns.map D.int))) (h0 : 0 ≤ b0') (h1 : 0 ≤ b1') (h1' : b1' ≤ 2147483647) (h2 : 0 ≤ b2') (hl : ns.length ≤ 63) (hn : ∀ n ∈ ns, 0 ≤ n) :
    Bag a c (up1 S a (.lst [.int b0', .int b1', .int b2', .ref c])) := by
  have ne : c ≠ a := LA.ne hc h int_ne_bag
  exact ⟨b0', b1', b2', ns, up1_same, by rw [up1_ne ne]; exact hc, h0, h1, h1', h2, hl, hn⟩
theorem Bag.ext {a c : Addr} {S S' : Sto} (b : Bag a c S) (e : Ext S S') : Bag a c S' := by
  obtain ⟨b0, b1, b2, ns, h, hc, r⟩ := b
  exact ⟨b0, b1, b2, ns, e _ _ h, e _ _ hc, r⟩
theorem Bag.ne {a c p : Addr} {S : Sto} (b : Bag a c S) (h : S p = none) : p ≠ a ∧ p ≠ c := by
  obtain ⟨_, _, _, _, ha, hc, _⟩ := b
  exact ⟨fun e => (by rw [e, ha] at h; cases h), fun e => (by rw [e, hc] at h; cases h)⟩
/-- another list is written -/
theorem Bag.put1 {a c p : Addr} {S : Sto} {x : Cell} (b : Bag a c S) (h : p ≠ a ∧ p ≠ c) : Bag a c (up1 S p x) := by
  obtain ⟨b0, b1, b2, ns, ha, hc, r⟩ := b
  exact ⟨b0, b1, b2, ns, by rw [up1_ne (Ne.symm h.1)]; exact ha, by rw [up1_ne (Ne.symm h.2)]; exact hc, r⟩
theorem len__law_is_row : ∀ ds S P EP, sp__law_is_row ds S P EP → ds.length = 2 := len_is_row
theorem nil_filter {α β : Type} {xs : List α} {p : α → Bool} {f : α → β} : ((xs.filter p).map f).isEmpty = xs.all fun x => !p x := by
  rw [List.isEmpty_map]
  induction xs with
  | nil => rfl
  | cons x r ih =>
    rw [List.filter_cons, List.all_cons, ← ih]
    cases p x <;> rfl
theorem row_all : ∀ xs : List D, (xs.all isI && xs.all fun m => match m with | .int i => decide (0 ≤ i) | _ => false) = xs.all fun m => !(match m with | .int i => decide (i < 0) | _ => true)
  | [] => rfl
  | x :: r => by
    rw [List.all_cons, List.all_cons, List.all_cons, ← row_all r]
    cases x <;> first
      | (simp [isI]; done)
      | skip
    rename_i i
    dsimp only
    by_cases c : i < 0
    · rw [decide_eq_true c, decide_eq_false (show ¬ 0 ≤ i by omega)]; simp
    · rw [decide_eq_false c, decide_eq_true (show 0 ≤ i by omega)]; simp [isI]
theorem pure__law_is_row : ∀ ds S Q EP, sp__law_is_row ds S Q EP → d__law_is_row EP { nx := fun _ S' => Q .non S', rt := Q } (startD 3 ds) S := by
  rintro ds S Q EP ⟨vs, r, x, rfl, hk, h⟩
  unfold d__law_is_row
  try simp only [isi_tuple hk.1, DL.ap_dC, DL.ap_dVar, DL.ap_dNil, DL.ap_dCons, DL.ap_dTup, DL.ap_dLst, DL.ap_dOp, DL.ap_dB, DL.ap_dChain, DL.ap_dTru, DL.ap_dAndT, DL.ap_dOrT, DL.ap_dNotT, DL.ap_dAndV, DL.ap_dOrV, DL.ap_dNotV, DL.ap_dIf, DL.ap_dUn, DL.ap_dCall, DL.ap_dNoPart, DL.ap_dPart, DL.ap_dSl, DL.ap_dBM, DL.ap_dBM0, DL.ap_dFn, DL.ap_dLc, DL.ap_dYes, DL.ap_dRg1, DL.ap_dRg2, DL.ap_dLrg, DL.ap_dTrg, DL.ap_iAny, DL.ap_iRng1, DL.ap_iRng2, DL.ap_iRng3, DL.ap_rng1P, DL.ap_rng2P, DL.ap_rng3P, DL.ap_iZip, DL.ap_dLzip, DL.ap_dZ2, DL.ap_iEnm, DL.ap_a1, DL.ap_a2, DL.ap_sqT, DL.ap_sqR, DL.ap_dNext, DL.ap_dSeq, DL.ap_dBreak, DL.ap_dCont, DL.ap_dDrop, DL.ap_dRet, DL.ap_dRetN, DL.ap_dIfS, DL.ap_dAsg, DL.ap_dPar, DL.ap_a3, DL.ap_dPar3, DL.ap_dAug, DL.ap_dAugS, DL.ap_dFor, DL.ap_gSet, DL.ap_gTup, DL.ap_gNil, DL.ap_gCons, DL.ap_gSub, DL.tr_non, DL.tr_bl, DL.tr_int, DL.tr_str, DL.tr_tup, DL.tr_ref, DL.ad_int, DL.ad_tup, DL.ad_ref, DL.sb_int, DL.mu_int, DL.mu_tup, DL.mu_ref, DL.fd_int, DL.md_int, DL.pw_int, DL.ng_int, DL.i2_int, DL.ci_int, DL.is_bl, DL.is_nn, DL.is_in, DL.is_tn, DL.is_rn, DL.is_sn, DL.ix_tup, DL.ix_ref, DL.ixl_ref, DL.sl_tup, DL.sl_lw, DL.sl_ref, DL.st_ref, DL.ap_append, DL.ap_extend, DL.ap_popI, DL.ap_pop0, DL.ty_ref, DL.ln_tup, DL.ln_ref, DL.ab_int, DL.in_int, DL.in_bl, DL.mn_int, DL.mx_int, DL.sm_of, DL.al_ref, DL.an_ref, DL.li_of, DL.tu_of, DL.so_ref, DL.getV_0, DL.getV_s, DL.set_0, DL.set_s, DL.startD_nil, DL.startD_cons, DL.rep_0, DL.rep_s, DL.wipe_nil, DL.wipe_cons, DL.isB_bl, DL.isN_int, DL.someD_some, DL.at0, DL.at1, DL.at2, DL.at3, DL.at4, DL.at5, DL.up1_same, DL.up_up]
  cases x with
  | tup xs =>
    simp only [isT, Bool.not_true, Bool.false_eq_true, if_false]
    try simp only [DL.ap_dC, DL.ap_dVar, DL.ap_dNil, DL.ap_dCons, DL.ap_dTup, DL.ap_dLst, DL.ap_dOp, DL.ap_dB, DL.ap_dChain, DL.ap_dTru, DL.ap_dAndT, DL.ap_dOrT, DL.ap_dNotT, DL.ap_dAndV, DL.ap_dOrV, DL.ap_dNotV, DL.ap_dIf, DL.ap_dUn, DL.ap_dCall, DL.ap_dNoPart, DL.ap_dPart, DL.ap_dSl, DL.ap_dBM, DL.ap_dBM0, DL.ap_dFn, DL.ap_dLc, DL.ap_dYes, DL.ap_dRg1, DL.ap_dRg2, DL.ap_dLrg, DL.ap_dTrg, DL.ap_iAny, DL.ap_iRng1, DL.ap_iRng2, DL.ap_iRng3, DL.ap_rng1P, DL.ap_rng2P, DL.ap_rng3P, DL.ap_iZip, DL.ap_dLzip, DL.ap_dZ2, DL.ap_iEnm, DL.ap_a1, DL.ap_a2, DL.ap_sqT, DL.ap_sqR, DL.ap_dNext, DL.ap_dSeq, DL.ap_dBreak, DL.ap_dCont, DL.ap_dDrop, DL.ap_dRet, DL.ap_dRetN, DL.ap_dIfS, DL.ap_dAsg, DL.ap_dPar, DL.ap_a3, DL.ap_dPar3, DL.ap_dAug, DL.ap_dAugS, DL.ap_dFor, DL.ap_gSet, DL.ap_gTup, DL.ap_gNil, DL.ap_gCons, DL.ap_gSub, DL.tr_non, DL.tr_bl, DL.tr_int, DL.tr_str, DL.tr_tup, DL.tr_ref, DL.ad_int, DL.ad_tup, DL.ad_ref, DL.sb_int, DL.mu_int, DL.mu_tup, DL.mu_ref, DL.fd_int, DL.md_int, DL.pw_int, DL.ng_int, DL.i2_int, DL.ci_int, DL.is_bl, DL.is_nn, DL.is_in, DL.is_tn, DL.is_rn, DL.is_sn, DL.ix_tup, DL.ix_ref, DL.ixl_ref, DL.sl_tup, DL.sl_lw, DL.sl_ref, DL.st_ref, DL.ap_append, DL.ap_extend, DL.ap_popI, DL.ap_pop0, DL.ty_ref, DL.ln_tup, DL.ln_ref, DL.ab_int, DL.in_int, DL.in_bl, DL.mn_int, DL.mx_int, DL.sm_of, DL.al_ref, DL.an_ref, DL.li_of, DL.tu_of, DL.so_ref, DL.getV_0, DL.getV_s, DL.set_0, DL.set_s, DL.startD_nil, DL.startD_cons, DL.rep_0, DL.rep_s, DL.wipe_nil, DL.wipe_cons, DL.isB_bl, DL.isN_int, DL.someD_some, DL.at0, DL.at1, DL.at2, DL.at3, DL.at4, DL.at5, DL.up1_same, DL.up_up]
    refine ne_ints ?_
    try simp only [DL.ap_dC, DL.ap_dVar, DL.ap_dNil, DL.ap_dCons, DL.ap_dTup, DL.ap_dLst, DL.ap_dOp, DL.ap_dB, DL.ap_dChain, DL.ap_dTru, DL.ap_dAndT, DL.ap_dOrT, DL.ap_dNotT, DL.ap_dAndV, DL.ap_dOrV, DL.ap_dNotV, DL.ap_dIf, DL.ap_dUn, DL.ap_dCall, DL.ap_dNoPart, DL.ap_dPart, DL.ap_dSl, DL.ap_dBM, DL.ap_dBM0, DL.ap_dFn, DL.ap_dLc, DL.ap_dYes, DL.ap_dRg1, DL.ap_dRg2, DL.ap_dLrg, DL.ap_dTrg, DL.ap_iAny, DL.ap_iRng1, DL.ap_iRng2, DL.ap_iRng3, DL.ap_rng1P, DL.ap_rng2P, DL.ap_rng3P, DL.ap_iZip, DL.ap_dLzip, DL.ap_dZ2, DL.ap_iEnm, DL.ap_a1, DL.ap_a2, DL.ap_sqT, DL.ap_sqR, DL.ap_dNext, DL.ap_dSeq, DL.ap_dBreak, DL.ap_dCont, DL.ap_dDrop, DL.ap_dRet, DL.ap_dRetN, DL.ap_dIfS, DL.ap_dAsg, DL.ap_dPar, DL.ap_a3, DL.ap_dPar3, DL.ap_dAug, DL.ap_dAugS, DL.ap_dFor, DL.ap_gSet, DL.ap_gTup, DL.ap_gNil, DL.ap_gCons, DL.ap_gSub, DL.tr_non, DL.tr_bl, DL.tr_int, DL.tr_str, DL.tr_tup, DL.tr_ref, DL.ad_int, DL.ad_tup, DL.ad_ref, DL.sb_int, DL.mu_int, DL.mu_tup, DL.mu_ref, DL.fd_int, DL.md_int, DL.pw_int, DL.ng_int, DL.i2_int, DL.ci_int, DL.is_bl, DL.is_nn, DL.is_in, DL.is_tn, DL.is_rn, DL.is_sn, DL.ix_tup, DL.ix_ref, DL.ixl_ref, DL.sl_tup, DL.sl_lw, DL.sl_ref, DL.st_ref, DL.ap_append, DL.ap_extend, DL.ap_popI, DL.ap_pop0, DL.ty_ref, DL.ln_tup, DL.ln_ref, DL.ab_int, DL.in_int, DL.in_bl, DL.mn_int, DL.mx_int, DL.sm_of, DL.al_ref, DL.an_ref, DL.li_of, DL.tu_of, DL.so_ref, DL.getV_0, DL.getV_s, DL.set_0, DL.set_s, DL.startD_nil, DL.startD_cons, DL.rep_0, DL.rep_s, DL.wipe_nil, DL.wipe_cons, DL.isB_bl, DL.isN_int, DL.someD_some, DL.at0, DL.at1, DL.at2, DL.at3, DL.at4, DL.at5, DL.up1_same, DL.up_up]
    by_cases c : xs.length = vs.length
    · rw [decide_eq_true (by omega)]
      simp only [Bool.not_true, Bool.false_eq_true, if_false]
      unfold d__law_is_row_1
      try simp only [DL.ap_dC, DL.ap_dVar, DL.ap_dNil, DL.ap_dCons, DL.ap_dTup, DL.ap_dLst, DL.ap_dOp, DL.ap_dB, DL.ap_dChain, DL.ap_dTru, DL.ap_dAndT, DL.ap_dOrT, DL.ap_dNotT, DL.ap_dAndV, DL.ap_dOrV, DL.ap_dNotV, DL.ap_dIf, DL.ap_dUn, DL.ap_dCall, DL.ap_dNoPart, DL.ap_dPart, DL.ap_dSl, DL.ap_dBM, DL.ap_dBM0, DL.ap_dFn, DL.ap_dLc, DL.ap_dYes, DL.ap_dRg1, DL.ap_dRg2, DL.ap_dLrg, DL.ap_dTrg, DL.ap_iAny, DL.ap_iRng1, DL.ap_iRng2, DL.ap_iRng3, DL.ap_rng1P, DL.ap_rng2P, DL.ap_rng3P, DL.ap_iZip, DL.ap_dLzip, DL.ap_dZ2, DL.ap_iEnm, DL.ap_a1, DL.ap_a2, DL.ap_sqT, DL.ap_sqR, DL.ap_dNext, DL.ap_dSeq, DL.ap_dBreak, DL.ap_dCont, DL.ap_dDrop, DL.ap_dRet, DL.ap_dRetN, DL.ap_dIfS, DL.ap_dAsg, DL.ap_dPar, DL.ap_a3, DL.ap_dPar3, DL.ap_dAug, DL.ap_dAugS, DL.ap_dFor, DL.ap_gSet, DL.ap_gTup, DL.ap_gNil, DL.ap_gCons, DL.ap_gSub, DL.tr_non, DL.tr_bl, DL.tr_int, DL.tr_str, DL.tr_tup, DL.tr_ref, DL.ad_int, DL.ad_tup, DL.ad_ref, DL.sb_int, DL.mu_int, DL.mu_tup, DL.mu_ref, DL.fd_int, DL.md_int, DL.pw_int, DL.ng_int, DL.i2_int, DL.ci_int, DL.is_bl, DL.is_nn, DL.is_in, DL.is_tn, DL.is_rn, DL.is_sn, DL.ix_tup, DL.ix_ref, DL.ixl_ref, DL.sl_tup, DL.sl_lw, DL.sl_ref, DL.st_ref, DL.ap_append, DL.ap_extend, DL.ap_popI, DL.ap_pop0, DL.ty_ref, DL.ln_tup, DL.ln_ref, DL.ab_int, DL.in_int, DL.in_bl, DL.mn_int, DL.mx_int, DL.sm_of, DL.al_ref, DL.an_ref, DL.li_of, DL.tu_of, DL.so_ref, DL.getV_0, DL.getV_s, DL.set_0, DL.set_s, DL.startD_nil, DL.startD_cons, DL.rep_0, DL.rep_s, DL.wipe_nil, DL.wipe_cons, DL.isB_bl, DL.isN_int, DL.someD_some, DL.at0, DL.at1, DL.at2, DL.at3, DL.at4, DL.at5, DL.up1_same, DL.up_up]
      obtain ⟨hz, hm⟩ := hk.2 xs rfl
      refine ⟨hz, ?_⟩
      rw [map_id_D xs]
      refine lc_run id (fun m => match m with | .int i => decide (i < 0) | _ => true) (fun _ => D.int 1) (fun S' => Ext S S') (fun _ _ => trivial) xs (fun m hmem S1 Y N h1 hY hN => ?_) S _ (Ext.refl S) fun S1 h1 q hq => ?_
      · try simp only [DL.ap_dC, DL.ap_dVar, DL.ap_dNil, DL.ap_dCons, DL.ap_dTup, DL.ap_dLst, DL.ap_dOp, DL.ap_dB, DL.ap_dChain, DL.ap_dTru, DL.ap_dAndT, DL.ap_dOrT, DL.ap_dNotT, DL.ap_dAndV, DL.ap_dOrV, DL.ap_dNotV, DL.ap_dIf, DL.ap_dUn, DL.ap_dCall, DL.ap_dNoPart, DL.ap_dPart, DL.ap_dSl, DL.ap_dBM, DL.ap_dBM0, DL.ap_dFn, DL.ap_dLc, DL.ap_dYes, DL.ap_dRg1, DL.ap_dRg2, DL.ap_dLrg, DL.ap_dTrg, DL.ap_iAny, DL.ap_iRng1, DL.ap_iRng2, DL.ap_iRng3, DL.ap_rng1P, DL.ap_rng2P, DL.ap_rng3P, DL.ap_iZip, DL.ap_dLzip, DL.ap_dZ2, DL.ap_iEnm, DL.ap_a1, DL.ap_a2, DL.ap_sqT, DL.ap_sqR, DL.ap_dNext, DL.ap_dSeq, DL.ap_dBreak, DL.ap_dCont, DL.ap_dDrop, DL.ap_dRet, DL.ap_dRetN, DL.ap_dIfS, DL.ap_dAsg, DL.ap_dPar, DL.ap_a3, DL.ap_dPar3, DL.ap_dAug, DL.ap_dAugS, DL.ap_dFor, DL.ap_gSet, DL.ap_gTup, DL.ap_gNil, DL.ap_gCons, DL.ap_gSub, DL.tr_non, DL.tr_bl, DL.tr_int, DL.tr_str, DL.tr_tup, DL.tr_ref, DL.ad_int, DL.ad_tup, DL.ad_ref, DL.sb_int, DL.mu_int, DL.mu_tup, DL.mu_ref, DL.fd_int, DL.md_int, DL.pw_int, DL.ng_int, DL.i2_int, DL.ci_int, DL.is_bl, DL.is_nn, DL.is_in, DL.is_tn, DL.is_rn, DL.is_sn, DL.ix_tup, DL.ix_ref, DL.ixl_ref, DL.sl_tup, DL.sl_lw, DL.sl_ref, DL.st_ref, DL.ap_append, DL.ap_extend, DL.ap_popI, DL.ap_pop0, DL.ty_ref, DL.ln_tup, DL.ln_ref, DL.ab_int, DL.in_int, DL.in_bl, DL.mn_int, DL.mx_int, DL.sm_of, DL.al_ref, DL.an_ref, DL.li_of, DL.tu_of, DL.so_ref, DL.getV_0, DL.getV_s, DL.set_0, DL.set_s, DL.startD_nil, DL.startD_cons, DL.rep_0, DL.rep_s, DL.wipe_nil, DL.wipe_cons, DL.isB_bl, DL.isN_int, DL.someD_some, DL.at0, DL.at1, DL.at2, DL.at3, DL.at4, DL.at5, DL.up1_same, DL.up_up]
        refine ⟨m, rfl, Kn.ext (hm m hmem) h1, ?_⟩
        try simp only [DL.ap_dC, DL.ap_dVar, DL.ap_dNil, DL.ap_dCons, DL.ap_dTup, DL.ap_dLst, DL.ap_dOp, DL.ap_dB, DL.ap_dChain, DL.ap_dTru, DL.ap_dAndT, DL.ap_dOrT, DL.ap_dNotT, DL.ap_dAndV, DL.ap_dOrV, DL.ap_dNotV, DL.ap_dIf, DL.ap_dUn, DL.ap_dCall, DL.ap_dNoPart, DL.ap_dPart, DL.ap_dSl, DL.ap_dBM, DL.ap_dBM0, DL.ap_dFn, DL.ap_dLc, DL.ap_dYes, DL.ap_dRg1, DL.ap_dRg2, DL.ap_dLrg, DL.ap_dTrg, DL.ap_iAny, DL.ap_iRng1, DL.ap_iRng2, DL.ap_iRng3, DL.ap_rng1P, DL.ap_rng2P, DL.ap_rng3P, DL.ap_iZip, DL.ap_dLzip, DL.ap_dZ2, DL.ap_iEnm, DL.ap_a1, DL.ap_a2, DL.ap_sqT, DL.ap_sqR, DL.ap_dNext, DL.ap_dSeq, DL.ap_dBreak, DL.ap_dCont, DL.ap_dDrop, DL.ap_dRet, DL.ap_dRetN, DL.ap_dIfS, DL.ap_dAsg, DL.ap_dPar, DL.ap_a3, DL.ap_dPar3, DL.ap_dAug, DL.ap_dAugS, DL.ap_dFor, DL.ap_gSet, DL.ap_gTup, DL.ap_gNil, DL.ap_gCons, DL.ap_gSub, DL.tr_non, DL.tr_bl, DL.tr_int, DL.tr_str, DL.tr_tup, DL.tr_ref, DL.ad_int, DL.ad_tup, DL.ad_ref, DL.sb_int, DL.mu_int, DL.mu_tup, DL.mu_ref, DL.fd_int, DL.md_int, DL.pw_int, DL.ng_int, DL.i2_int, DL.ci_int, DL.is_bl, DL.is_nn, DL.is_in, DL.is_tn, DL.is_rn, DL.is_sn, DL.ix_tup, DL.ix_ref, DL.ixl_ref, DL.sl_tup, DL.sl_lw, DL.sl_ref, DL.st_ref, DL.ap_append, DL.ap_extend, DL.ap_popI, DL.ap_pop0, DL.ty_ref, DL.ln_tup, DL.ln_ref, DL.ab_int, DL.in_int, DL.in_bl, DL.mn_int, DL.mx_int, DL.sm_of, DL.al_ref, DL.an_ref, DL.li_of, DL.tu_of, DL.so_ref, DL.getV_0, DL.getV_s, DL.set_0, DL.set_s, DL.startD_nil, DL.startD_cons, DL.rep_0, DL.rep_s, DL.wipe_nil, DL.wipe_cons, DL.isB_bl, DL.isN_int, DL.someD_some, DL.at0, DL.at1, DL.at2, DL.at3, DL.at4, DL.at5, DL.up1_same, DL.up_up]
        have kk := hm m hmem
        cases m with
        | int i =>
          simp only [isI, id, Bool.not_true, Bool.false_eq_true, if_false]
          try simp only [DL.ap_dC, DL.ap_dVar, DL.ap_dNil, DL.ap_dCons, DL.ap_dTup, DL.ap_dLst, DL.ap_dOp, DL.ap_dB, DL.ap_dChain, DL.ap_dTru, DL.ap_dAndT, DL.ap_dOrT, DL.ap_dNotT, DL.ap_dAndV, DL.ap_dOrV, DL.ap_dNotV, DL.ap_dIf, DL.ap_dUn, DL.ap_dCall, DL.ap_dNoPart, DL.ap_dPart, DL.ap_dSl, DL.ap_dBM, DL.ap_dBM0, DL.ap_dFn, DL.ap_dLc, DL.ap_dYes, DL.ap_dRg1, DL.ap_dRg2, DL.ap_dLrg, DL.ap_dTrg, DL.ap_iAny, DL.ap_iRng1, DL.ap_iRng2, DL.ap_iRng3, DL.ap_rng1P, DL.ap_rng2P, DL.ap_rng3P, DL.ap_iZip, DL.ap_dLzip, DL.ap_dZ2, DL.ap_iEnm, DL.ap_a1, DL.ap_a2, DL.ap_sqT, DL.ap_sqR, DL.ap_dNext, DL.ap_dSeq, DL.ap_dBreak, DL.ap_dCont, DL.ap_dDrop, DL.ap_dRet, DL.ap_dRetN, DL.ap_dIfS, DL.ap_dAsg, DL.ap_dPar, DL.ap_a3, DL.ap_dPar3, DL.ap_dAug, DL.ap_dAugS, DL.ap_dFor, DL.ap_gSet, DL.ap_gTup, DL.ap_gNil, DL.ap_gCons, DL.ap_gSub, DL.tr_non, DL.tr_bl, DL.tr_int, DL.tr_str, DL.tr_tup, DL.tr_ref, DL.ad_int, DL.ad_tup, DL.ad_ref, DL.sb_int, DL.mu_int, DL.mu_tup, DL.mu_ref, DL.fd_int, DL.md_int, DL.pw_int, DL.ng_int, DL.i2_int, DL.ci_int, DL.is_bl, DL.is_nn, DL.is_in, DL.is_tn, DL.is_rn, DL.is_sn, DL.ix_tup, DL.ix_ref, DL.ixl_ref, DL.sl_tup, DL.sl_lw, DL.sl_ref, DL.st_ref, DL.ap_append, DL.ap_extend, DL.ap_popI, DL.ap_pop0, DL.ty_ref, DL.ln_tup, DL.ln_ref, DL.ab_int, DL.in_int, DL.in_bl, DL.mn_int, DL.mx_int, DL.sm_of, DL.al_ref, DL.an_ref, DL.li_of, DL.tu_of, DL.so_ref, DL.getV_0, DL.getV_s, DL.set_0, DL.set_s, DL.startD_nil, DL.startD_cons, DL.rep_0, DL.rep_s, DL.wipe_nil, DL.wipe_cons, DL.isB_bl, DL.isN_int, DL.someD_some, DL.at0, DL.at1, DL.at2, DL.at3, DL.at4, DL.at5, DL.up1_same, DL.up_up]
          by_cases c2 : i < 0
          · rw [if_pos (decide_eq_true c2)]
            exact hY (decide_eq_true c2) S1 h1
          · rw [if_neg (by simpa using c2)]
            exact hN (decide_eq_false c2) S1 h1
        | _ =>
          simp only [isI, Bool.not_false, if_true]
          exact hY rfl S1 h1
      · try simp only [DL.ap_dC, DL.ap_dVar, DL.ap_dNil, DL.ap_dCons, DL.ap_dTup, DL.ap_dLst, DL.ap_dOp, DL.ap_dB, DL.ap_dChain, DL.ap_dTru, DL.ap_dAndT, DL.ap_dOrT, DL.ap_dNotT, DL.ap_dAndV, DL.ap_dOrV, DL.ap_dNotV, DL.ap_dIf, DL.ap_dUn, DL.ap_dCall, DL.ap_dNoPart, DL.ap_dPart, DL.ap_dSl, DL.ap_dBM, DL.ap_dBM0, DL.ap_dFn, DL.ap_dLc, DL.ap_dYes, DL.ap_dRg1, DL.ap_dRg2, DL.ap_dLrg, DL.ap_dTrg, DL.ap_iAny, DL.ap_iRng1, DL.ap_iRng2, DL.ap_iRng3, DL.ap_rng1P, DL.ap_rng2P, DL.ap_rng3P, DL.ap_iZip, DL.ap_dLzip, DL.ap_dZ2, DL.ap_iEnm, DL.ap_a1, DL.ap_a2, DL.ap_sqT, DL.ap_sqR, DL.ap_dNext, DL.ap_dSeq, DL.ap_dBreak, DL.ap_dCont, DL.ap_dDrop, DL.ap_dRet, DL.ap_dRetN, DL.ap_dIfS, DL.ap_dAsg, DL.ap_dPar, DL.ap_a3, DL.ap_dPar3, DL.ap_dAug, DL.ap_dAugS, DL.ap_dFor, DL.ap_gSet, DL.ap_gTup, DL.ap_gNil, DL.ap_gCons, DL.ap_gSub, DL.tr_non, DL.tr_bl, DL.tr_int, DL.tr_str, DL.tr_tup, DL.tr_ref, DL.ad_int, DL.ad_tup, DL.ad_ref, DL.sb_int, DL.mu_int, DL.mu_tup, DL.mu_ref, DL.fd_int, DL.md_int, DL.pw_int, DL.ng_int, DL.i2_int, DL.ci_int, DL.is_bl, DL.is_nn, DL.is_in, DL.is_tn, DL.is_rn, DL.is_sn, DL.ix_tup, DL.ix_ref, DL.ixl_ref, DL.sl_tup, DL.sl_lw, DL.sl_ref, DL.st_ref, DL.ap_append, DL.ap_extend, DL.ap_popI, DL.ap_pop0, DL.ty_ref, DL.ln_tup, DL.ln_ref, DL.ab_int, DL.in_int, DL.in_bl, DL.mn_int, DL.mx_int, DL.sm_of, DL.al_ref, DL.an_ref, DL.li_of, DL.tu_of, DL.so_ref, DL.getV_0, DL.getV_s, DL.set_0, DL.set_s, DL.startD_nil, DL.startD_cons, DL.rep_0, DL.rep_s, DL.wipe_nil, DL.wipe_cons, DL.isB_bl, DL.isN_int, DL.someD_some, DL.at0, DL.at1, DL.at2, DL.at3, DL.at4, DL.at5, DL.up1_same, DL.up_up]
        refine ⟨line (by decide), fun q2 hq2 => ?_⟩
        have n2 : q ≠ q2 := fun e => by rw [e, up1_same] at hq2; cases hq2
        refine eq_RR (xs := (xs.filter _).map _) (ys := []) (by rw [LA, up1_ne n2]; exact up1_same) up1_same (by simp [isDs_all, isD]) rfl ?_
        rw [eqDs_nil, nil_filter]
        have e : isRow vs.length (.tup xs) = xs.all fun m => !(match m with | .int i => decide (i < 0) | _ => true) := by
          show (xs.all isI && decide (xs.length = vs.length) && xs.all _) = _
          rw [decide_eq_true c, Bool.and_true]
          exact row_all xs
        rw [e] at h
        exact h _ ((h1.trans (Ext.new hq)).trans (Ext.new hq2))
    · rw [decide_eq_false (by omega)]
      simp only [Bool.not_false, if_true]
      have := h S (Ext.refl S)
      have e : isRow vs.length (.tup xs) = false := by
        show (xs.all isI && decide (xs.length = vs.length) && xs.all _) = _
        rw [decide_eq_false c, Bool.and_false, Bool.false_and]
      rw [e] at this
      exact this
  | fn _ => exact hk.1.elim
  | ty _ => exact hk.1.elim
  | lw _ => exact hk.1.elim
  | _ =>
    simp only [isT, Bool.not_false, if_true]
    exact h S (Ext.refl S)
theorem len__law_below : ∀ ds S P EP, sp__law_below ds S P EP → ds.length = 2 := by rintro _ S P EP ⟨xs, ys, rfl, _⟩; rfl
theorem pure__law_below : ∀ ds S Q EP, sp__law_below ds S Q EP → d__law_below EP { nx := fun _ S' => Q .non S', rt := Q } (startD 4 ds) S := by
  rintro ds S Q EP ⟨xs, ys, rfl, hl, h⟩
  unfold d__law_below
  try simp only [DL.ap_dC, DL.ap_dVar, DL.ap_dNil, DL.ap_dCons, DL.ap_dTup, DL.ap_dLst, DL.ap_dOp, DL.ap_dB, DL.ap_dChain, DL.ap_dTru, DL.ap_dAndT, DL.ap_dOrT, DL.ap_dNotT, DL.ap_dAndV, DL.ap_dOrV, DL.ap_dNotV, DL.ap_dIf, DL.ap_dUn, DL.ap_dCall, DL.ap_dNoPart, DL.ap_dPart, DL.ap_dSl, DL.ap_dBM, DL.ap_dBM0, DL.ap_dFn, DL.ap_dLc, DL.ap_dYes, DL.ap_dRg1, DL.ap_dRg2, DL.ap_dLrg, DL.ap_dTrg, DL.ap_iAny, DL.ap_iRng1, DL.ap_iRng2, DL.ap_iRng3, DL.ap_rng1P, DL.ap_rng2P, DL.ap_rng3P, DL.ap_iZip, DL.ap_dLzip, DL.ap_dZ2, DL.ap_iEnm, DL.ap_a1, DL.ap_a2, DL.ap_sqT, DL.ap_sqR, DL.ap_dNext, DL.ap_dSeq, DL.ap_dBreak, DL.ap_dCont, DL.ap_dDrop, DL.ap_dRet, DL.ap_dRetN, DL.ap_dIfS, DL.ap_dAsg, DL.ap_dPar, DL.ap_a3, DL.ap_dPar3, DL.ap_dAug, DL.ap_dAugS, DL.ap_dFor, DL.ap_gSet, DL.ap_gTup, DL.ap_gNil, DL.ap_gCons, DL.ap_gSub, DL.tr_non, DL.tr_bl, DL.tr_int, DL.tr_str, DL.tr_tup, DL.tr_ref, DL.ad_int, DL.ad_tup, DL.ad_ref, DL.sb_int, DL.mu_int, DL.mu_tup, DL.mu_ref, DL.fd_int, DL.md_int, DL.pw_int, DL.ng_int, DL.i2_int, DL.ci_int, DL.is_bl, DL.is_nn, DL.is_in, DL.is_tn, DL.is_rn, DL.is_sn, DL.ix_tup, DL.ix_ref, DL.ixl_ref, DL.sl_tup, DL.sl_lw, DL.sl_ref, DL.st_ref, DL.ap_append, DL.ap_extend, DL.ap_popI, DL.ap_pop0, DL.ty_ref, DL.ln_tup, DL.ln_ref, DL.ab_int, DL.in_int, DL.in_bl, DL.mn_int, DL.mx_int, DL.sm_of, DL.al_ref, DL.an_ref, DL.li_of, DL.tu_of, DL.so_ref, DL.getV_0, DL.getV_s, DL.set_0, DL.set_s, DL.startD_nil, DL.startD_cons, DL.rep_0, DL.rep_s, DL.wipe_nil, DL.wipe_cons, DL.isB_bl, DL.isN_int, DL.someD_some, DL.at0, DL.at1, DL.at2, DL.at3, DL.at4, DL.at5, DL.up1_same, DL.up_up]
  rw [zipD_ints, List.length_map]
  refine ⟨by rw [List.length_zip]; omega, lc_run enc2 (fun p => decide (p.2 < p.1)) (fun _ => D.int 1) (fun S' => Ext S S') (fun _ _ => ⟨trivial, trivial⟩) _ (fun p hp S2 Y N h2 hY hN => ?_) S _ (Ext.refl S) fun S1 h1 q hq => ?_⟩
  · unfold enc2
    try simp only [DL.ap_dC, DL.ap_dVar, DL.ap_dNil, DL.ap_dCons, DL.ap_dTup, DL.ap_dLst, DL.ap_dOp, DL.ap_dB, DL.ap_dChain, DL.ap_dTru, DL.ap_dAndT, DL.ap_dOrT, DL.ap_dNotT, DL.ap_dAndV, DL.ap_dOrV, DL.ap_dNotV, DL.ap_dIf, DL.ap_dUn, DL.ap_dCall, DL.ap_dNoPart, DL.ap_dPart, DL.ap_dSl, DL.ap_dBM, DL.ap_dBM0, DL.ap_dFn, DL.ap_dLc, DL.ap_dYes, DL.ap_dRg1, DL.ap_dRg2, DL.ap_dLrg, DL.ap_dTrg, DL.ap_iAny, DL.ap_iRng1, DL.ap_iRng2, DL.ap_iRng3, DL.ap_rng1P, DL.ap_rng2P, DL.ap_rng3P, DL.ap_iZip, DL.ap_dLzip, DL.ap_dZ2, DL.ap_iEnm, DL.ap_a1, DL.ap_a2, DL.ap_sqT, DL.ap_sqR, DL.ap_dNext, DL.ap_dSeq, DL.ap_dBreak, DL.ap_dCont, DL.ap_dDrop, DL.ap_dRet, DL.ap_dRetN, DL.ap_dIfS, DL.ap_dAsg, DL.ap_dPar, DL.ap_a3, DL.ap_dPar3, DL.ap_dAug, DL.ap_dAugS, DL.ap_dFor, DL.ap_gSet, DL.ap_gTup, DL.ap_gNil, DL.ap_gCons, DL.ap_gSub, DL.tr_non, DL.tr_bl, DL.tr_int, DL.tr_str, DL.tr_tup, DL.tr_ref, DL.ad_int, DL.ad_tup, DL.ad_ref, DL.sb_int, DL.mu_int, DL.mu_tup, DL.mu_ref, DL.fd_int, DL.md_int, DL.pw_int, DL.ng_int, DL.i2_int, DL.ci_int, DL.is_bl, DL.is_nn, DL.is_in, DL.is_tn, DL.is_rn, DL.is_sn, DL.ix_tup, DL.ix_ref, DL.ixl_ref, DL.sl_tup, DL.sl_lw, DL.sl_ref, DL.st_ref, DL.ap_append, DL.ap_extend, DL.ap_popI, DL.ap_pop0, DL.ty_ref, DL.ln_tup, DL.ln_ref, DL.ab_int, DL.in_int, DL.in_bl, DL.mn_int, DL.mx_int, DL.sm_of, DL.al_ref, DL.an_ref, DL.li_of, DL.tu_of, DL.so_ref, DL.getV_0, DL.getV_s, DL.set_0, DL.set_s, DL.startD_nil, DL.startD_cons, DL.rep_0, DL.rep_s, DL.wipe_nil, DL.wipe_cons, DL.isB_bl, DL.isN_int, DL.someD_some, DL.at0, DL.at1, DL.at2, DL.at3, DL.at4, DL.at5, DL.up1_same, DL.up_up]
    refine ⟨rfl, ?_⟩
    by_cases c : p.2 < p.1
    · rw [if_pos (decide_eq_true c)]
      exact hY (decide_eq_true c) S2 h2
    · rw [if_neg (by simpa using c)]
      exact hN (decide_eq_false c) S2 h2
  · try simp only [DL.ap_dC, DL.ap_dVar, DL.ap_dNil, DL.ap_dCons, DL.ap_dTup, DL.ap_dLst, DL.ap_dOp, DL.ap_dB, DL.ap_dChain, DL.ap_dTru, DL.ap_dAndT, DL.ap_dOrT, DL.ap_dNotT, DL.ap_dAndV, DL.ap_dOrV, DL.ap_dNotV, DL.ap_dIf, DL.ap_dUn, DL.ap_dCall, DL.ap_dNoPart, DL.ap_dPart, DL.ap_dSl, DL.ap_dBM, DL.ap_dBM0, DL.ap_dFn, DL.ap_dLc, DL.ap_dYes, DL.ap_dRg1, DL.ap_dRg2, DL.ap_dLrg, DL.ap_dTrg, DL.ap_iAny, DL.ap_iRng1, DL.ap_iRng2, DL.ap_iRng3, DL.ap_rng1P, DL.ap_rng2P, DL.ap_rng3P, DL.ap_iZip, DL.ap_dLzip, DL.ap_dZ2, DL.ap_iEnm, DL.ap_a1, DL.ap_a2, DL.ap_sqT, DL.ap_sqR, DL.ap_dNext, DL.ap_dSeq, DL.ap_dBreak, DL.ap_dCont, DL.ap_dDrop, DL.ap_dRet, DL.ap_dRetN, DL.ap_dIfS, DL.ap_dAsg, DL.ap_dPar, DL.ap_a3, DL.ap_dPar3, DL.ap_dAug, DL.ap_dAugS, DL.ap_dFor, DL.ap_gSet, DL.ap_gTup, DL.ap_gNil, DL.ap_gCons, DL.ap_gSub, DL.tr_non, DL.tr_bl, DL.tr_int, DL.tr_str, DL.tr_tup, DL.tr_ref, DL.ad_int, DL.ad_tup, DL.ad_ref, DL.sb_int, DL.mu_int, DL.mu_tup, DL.mu_ref, DL.fd_int, DL.md_int, DL.pw_int, DL.ng_int, DL.i2_int, DL.ci_int, DL.is_bl, DL.is_nn, DL.is_in, DL.is_tn, DL.is_rn, DL.is_sn, DL.ix_tup, DL.ix_ref, DL.ixl_ref, DL.sl_tup, DL.sl_lw, DL.sl_ref, DL.st_ref, DL.ap_append, DL.ap_extend, DL.ap_popI, DL.ap_pop0, DL.ty_ref, DL.ln_tup, DL.ln_ref, DL.ab_int, DL.in_int, DL.in_bl, DL.mn_int, DL.mx_int, DL.sm_of, DL.al_ref, DL.an_ref, DL.li_of, DL.tu_of, DL.so_ref, DL.getV_0, DL.getV_s, DL.set_0, DL.set_s, DL.startD_nil, DL.startD_cons, DL.rep_0, DL.rep_s, DL.wipe_nil, DL.wipe_cons, DL.isB_bl, DL.isN_int, DL.someD_some, DL.at0, DL.at1, DL.at2, DL.at3, DL.at4, DL.at5, DL.up1_same, DL.up_up]
    refine ⟨line (by decide), fun q2 hq2 => ?_⟩
    have n2 : q ≠ q2 := fun e => by rw [e, up1_same] at hq2; cases hq2
    refine eq_RR (xs := (List.filter _ _).map _) (ys := []) (by rw [LA, up1_ne n2]; exact up1_same) up1_same (by simp [isDs_all, isD]) rfl ?_
    rw [eqDs_nil, nil_filter]
    have e : (fun p : Int × Int => !decide (p.2 < p.1)) = fun p => decide (p.1 ≤ p.2) := by
      funext p
      by_cases c : p.2 < p.1
      · rw [decide_eq_true c, decide_eq_false (by omega)]; rfl
      · rw [decide_eq_false c, decide_eq_true (by omega)]; rfl
    rw [e]
    exact h _ ((h1.trans (Ext.new hq)).trans (Ext.new hq2))
theorem len__law_bag : ∀ ds S P EP, sp__law_bag ds S P EP → ds.length = 1 := by rintro _ S P EP ⟨xs, rfl, _⟩; rfl
theorem cut_top {xs : List D} {n : Nat} : cutD xs none (some (n : Int)) = xs.take (min n xs.length) := by
  unfold cutD
  rw [HT.sIx_none, HT.sIx_nat]
  simp
theorem pure__law_bag : ∀ ds S Q EP, sp__law_bag ds S Q EP → d__law_bag EP { nx := fun _ S' => Q .non S', rt := Q } (startD 2 ds) S := by
  rintro ds S Q EP ⟨ns, rfl, h⟩
  unfold d__law_bag
  try simp only [DL.ap_dC, DL.ap_dVar, DL.ap_dNil, DL.ap_dCons, DL.ap_dTup, DL.ap_dLst, DL.ap_dOp, DL.ap_dB, DL.ap_dChain, DL.ap_dTru, DL.ap_dAndT, DL.ap_dOrT, DL.ap_dNotT, DL.ap_dAndV, DL.ap_dOrV, DL.ap_dNotV, DL.ap_dIf, DL.ap_dUn, DL.ap_dCall, DL.ap_dNoPart, DL.ap_dPart, DL.ap_dSl, DL.ap_dBM, DL.ap_dBM0, DL.ap_dFn, DL.ap_dLc, DL.ap_dYes, DL.ap_dRg1, DL.ap_dRg2, DL.ap_dLrg, DL.ap_dTrg, DL.ap_iAny, DL.ap_iRng1, DL.ap_iRng2, DL.ap_iRng3, DL.ap_rng1P, DL.ap_rng2P, DL.ap_rng3P, DL.ap_iZip, DL.ap_dLzip, DL.ap_dZ2, DL.ap_iEnm, DL.ap_a1, DL.ap_a2, DL.ap_sqT, DL.ap_sqR, DL.ap_dNext, DL.ap_dSeq, DL.ap_dBreak, DL.ap_dCont, DL.ap_dDrop, DL.ap_dRet, DL.ap_dRetN, DL.ap_dIfS, DL.ap_dAsg, DL.ap_dPar, DL.ap_a3, DL.ap_dPar3, DL.ap_dAug, DL.ap_dAugS, DL.ap_dFor, DL.ap_gSet, DL.ap_gTup, DL.ap_gNil, DL.ap_gCons, DL.ap_gSub, DL.tr_non, DL.tr_bl, DL.tr_int, DL.tr_str, DL.tr_tup, DL.tr_ref, DL.ad_int, DL.ad_tup, DL.ad_ref, DL.sb_int, DL.mu_int, DL.mu_tup, DL.mu_ref, DL.fd_int, DL.md_int, DL.pw_int, DL.ng_int, DL.i2_int, DL.ci_int, DL.is_bl, DL.is_nn, DL.is_in, DL.is_tn, DL.is_rn, DL.is_sn, DL.ix_tup, DL.ix_ref, DL.ixl_ref, DL.sl_tup, DL.sl_lw, DL.sl_ref, DL.st_ref, DL.ap_append, DL.ap_extend, DL.ap_popI, DL.ap_pop0, DL.ty_ref, DL.ln_tup, DL.ln_ref, DL.ab_int, DL.in_int, DL.in_bl, DL.mn_int, DL.mx_int, DL.sm_of, DL.al_ref, DL.an_ref, DL.li_of, DL.tu_of, DL.so_ref, DL.getV_0, DL.getV_s, DL.set_0, DL.set_s, DL.startD_nil, DL.startD_cons, DL.rep_0, DL.rep_s, DL.wipe_nil, DL.wipe_cons, DL.isB_bl, DL.isN_int, DL.someD_some, DL.at0, DL.at1, DL.at2, DL.at3, DL.at4, DL.at5, DL.up1_same, DL.up_up]
  intro q hq
  have hcut : cutD (ns.map D.int) none (some 63) = (ns.take (min 63 ns.length)).map D.int := by
    have := cut_top (xs := ns.map D.int) (n := 63)
    rw [List.length_map, ← List.map_take] at this
    exact this
  rw [hcut]
  refine lstAt_of up1_same ⟨by rw [List.length_map, List.length_take]; exact line (by omega), ?_⟩
  refine lc_map D.int (fun i => D.int (if i < 0 then -i else i)) (fun S' => Ext (up1 S q (.lst ((ns.take (min 63 ns.length)).map D.int))) S') (fun S' e => e _ _ up1_same) _ (fun i hi S1 Y h1 hY => ?_) _ _ (Ext.refl _) fun S1 h1 p hp => ?_
  · try simp only [DL.ap_dC, DL.ap_dVar, DL.ap_dNil, DL.ap_dCons, DL.ap_dTup, DL.ap_dLst, DL.ap_dOp, DL.ap_dB, DL.ap_dChain, DL.ap_dTru, DL.ap_dAndT, DL.ap_dOrT, DL.ap_dNotT, DL.ap_dAndV, DL.ap_dOrV, DL.ap_dNotV, DL.ap_dIf, DL.ap_dUn, DL.ap_dCall, DL.ap_dNoPart, DL.ap_dPart, DL.ap_dSl, DL.ap_dBM, DL.ap_dBM0, DL.ap_dFn, DL.ap_dLc, DL.ap_dYes, DL.ap_dRg1, DL.ap_dRg2, DL.ap_dLrg, DL.ap_dTrg, DL.ap_iAny, DL.ap_iRng1, DL.ap_iRng2, DL.ap_iRng3, DL.ap_rng1P, DL.ap_rng2P, DL.ap_rng3P, DL.ap_iZip, DL.ap_dLzip, DL.ap_dZ2, DL.ap_iEnm, DL.ap_a1, DL.ap_a2, DL.ap_sqT, DL.ap_sqR, DL.ap_dNext, DL.ap_dSeq, DL.ap_dBreak, DL.ap_dCont, DL.ap_dDrop, DL.ap_dRet, DL.ap_dRetN, DL.ap_dIfS, DL.ap_dAsg, DL.ap_dPar, DL.ap_a3, DL.ap_dPar3, DL.ap_dAug, DL.ap_dAugS, DL.ap_dFor, DL.ap_gSet, DL.ap_gTup, DL.ap_gNil, DL.ap_gCons, DL.ap_gSub, DL.tr_non, DL.tr_bl, DL.tr_int, DL.tr_str, DL.tr_tup, DL.tr_ref, DL.ad_int, DL.ad_tup, DL.ad_ref, DL.sb_int, DL.mu_int, DL.mu_tup, DL.mu_ref, DL.fd_int, DL.md_int, DL.pw_int, DL.ng_int, DL.i2_int, DL.ci_int, DL.is_bl, DL.is_nn, DL.is_in, DL.is_tn, DL.is_rn, DL.is_sn, DL.ix_tup, DL.ix_ref, DL.ixl_ref, DL.sl_tup, DL.sl_lw, DL.sl_ref, DL.st_ref, DL.ap_append, DL.ap_extend, DL.ap_popI, DL.ap_pop0, DL.ty_ref, DL.ln_tup, DL.ln_ref, DL.ab_int, DL.in_int, DL.in_bl, DL.mn_int, DL.mx_int, DL.sm_of, DL.al_ref, DL.an_ref, DL.li_of, DL.tu_of, DL.so_ref, DL.getV_0, DL.getV_s, DL.set_0, DL.set_s, DL.startD_nil, DL.startD_cons, DL.rep_0, DL.rep_s, DL.wipe_nil, DL.wipe_cons, DL.isB_bl, DL.isN_int, DL.someD_some, DL.at0, DL.at1, DL.at2, DL.at3, DL.at4, DL.at5, DL.up1_same, DL.up_up]
    exact hY S1 h1
  · refine ⟨line (show 4 ≤ 1000000 by decide), fun a ha => ?_⟩
    have e1 := (Ext.new (c := .lst ((ns.take (min 63 ns.length)).map D.int)) hq).trans h1
    have e2 := (e1.trans (Ext.new (c := .lst ((ns.take (min 63 ns.length)).map fun i => D.int (if i < 0 then -i else i))) hp)).trans (Ext.new (c := .lst [D.int 0, D.int 1234567891, D.int 0, D.ref p]) ha)
    have na : p ≠ a := fun e => by rw [e, up1_same] at ha; cases ha
    have hSa : S a = none := by
      cases e : S a with
      | none => rfl
      | some c =>
        have := e1 a c e
        rw [up1_ne (Ne.symm na), this] at ha; cases ha
    refine h a p _ e2 hSa (Ext.none_of e1 hp) ⟨0, 1234567891, 0, (ns.take (min 63 ns.length)).map fun i => if i < 0 then -i else i, up1_same, ?_, by decide, by decide, by decide, by decide, ?_, ?_⟩
    · rw [up1_ne na, up1_same, List.map_map]; rfl
    · rw [List.length_map, List.length_take]; omega
    · intro n hn
      obtain ⟨i, _, rfl⟩ := List.mem_map.mp hn
      show 0 ≤ if i < 0 then -i else i
      split <;> omega

/-! ### one draw -/
theorem cut_from {xs : List D} {n : Int} (h : 0 ≤ n) : cutD xs (some n) none = xs.drop n.toNat := by
  unfold cutD
  obtain ⟨k, rfl⟩ := Int.eq_ofNat_of_zero_le h
  rw [HT.sIx_nat, HT.sIx_none]
  by_cases hk : k ≤ xs.length
  · rw [Nat.min_eq_left hk, Int.toNat_natCast, List.take_of_length_le (by simp)]
  · rw [Nat.min_eq_right (by omega), Int.toNat_natCast, List.drop_eq_nil_of_le (Nat.le_refl _), List.drop_eq_nil_of_le (by omega), List.take_nil]
theorem pow18 : (10 : Int) ^ (18 : Int).toNat = 1000000000000000000 := by decide
/-- the first of the rest, or 0 -/
theorem head_or {ns : List Int} {k : Nat} (h : ∀ n ∈ ns, 0 ≤ n) : ∃ c : Int, 0 ≤ c ∧ atI ((ns.map D.int).drop k ++ [D.int 0]) 0 = some (.int c) := by
  cases e : (ns.map D.int).drop k with
  | nil => exact ⟨0, Int.le_refl _, at0⟩
  | cons d r =>
    have hd : d ∈ (ns.map D.int).drop k := by rw [e]; simp
    obtain ⟨i, hi, rfl⟩ := List.mem_map.mp (List.mem_of_mem_drop hd)
    exact ⟨i, h i hi, at0⟩
theorem small_mul {i j : Int} (h0 : 0 ≤ i) (h : i < 18446744073709551616) : CMulA i j := .inl (.inl ⟨by omega, by omega⟩)
theorem small_mul' {i j : Int} (h0 : 0 ≤ j) (h : j < 18446744073709551616) : CMulA i j := .inl (.inr ⟨by omega, by omega⟩)
theorem div_ok {i j : Int} (h0 : 0 < j) (h : j ≤ 1000000000000) : CDivW i j := wide_div (b := 41) h0 (by omega) (by decide) (by decide)
theorem len__law_take : ∀ ds S P EP, sp__law_take ds S P EP → ds.length = 2 := by rintro _ S P EP ⟨a, c, m, rfl, _⟩; rfl
theorem pure__law_take : ∀ ds S Q EP, sp__law_take ds S Q EP → d__law_take EP { nx := fun _ S' => Q .non S', rt := Q } (startD 7 ds) S := by
  rintro ds S Q EP ⟨a, c, m, rfl, ⟨b0, b1, b2, ns, ha, hc, h0, h1, h1', h2, hl, hn⟩, hm, hm', h⟩
  have nca : c ≠ a := LA.ne hc ha int_ne_bag
  -- what follows the first part
  have rest : ∀ (o2 o3 : Option D) (b0' b1' b2' : Int) (S1 : Sto), S1 a = some (.lst [.int b0', .int b1', .int b2', .ref c]) → S1 c = some (.lst (ns.map D.int)) → 0 ≤ b0' → 0 ≤ b1' → b1' ≤ 2147483647 → 0 ≤ b2' → ExtB a S S1 →
      d__law_take_9 EP { nx := fun _ S' => Q .non S', rt := Q } [some (.ref a), some (.int m), o2, o3, none, none, none] S1 := by
    intro o2 o3 b0' b1' b2' S1 ha1 hc1 g0 g1 g1' g2 ge
    unfold d__law_take_9
    try simp only [lstAt_known ha1, DL.ap_dC, DL.ap_dVar, DL.ap_dNil, DL.ap_dCons, DL.ap_dTup, DL.ap_dLst, DL.ap_dOp, DL.ap_dB, DL.ap_dChain, DL.ap_dTru, DL.ap_dAndT, DL.ap_dOrT, DL.ap_dNotT, DL.ap_dAndV, DL.ap_dOrV, DL.ap_dNotV, DL.ap_dIf, DL.ap_dUn, DL.ap_dCall, DL.ap_dNoPart, DL.ap_dPart, DL.ap_dSl, DL.ap_dBM, DL.ap_dBM0, DL.ap_dFn, DL.ap_dLc, DL.ap_dYes, DL.ap_dRg1, DL.ap_dRg2, DL.ap_dLrg, DL.ap_dTrg, DL.ap_iAny, DL.ap_iRng1, DL.ap_iRng2, DL.ap_iRng3, DL.ap_rng1P, DL.ap_rng2P, DL.ap_rng3P, DL.ap_iZip, DL.ap_dLzip, DL.ap_dZ2, DL.ap_iEnm, DL.ap_a1, DL.ap_a2, DL.ap_sqT, DL.ap_sqR, DL.ap_dNext, DL.ap_dSeq, DL.ap_dBreak, DL.ap_dCont, DL.ap_dDrop, DL.ap_dRet, DL.ap_dRetN, DL.ap_dIfS, DL.ap_dAsg, DL.ap_dPar, DL.ap_a3, DL.ap_dPar3, DL.ap_dAug, DL.ap_dAugS, DL.ap_dFor, DL.ap_gSet, DL.ap_gTup, DL.ap_gNil, DL.ap_gCons, DL.ap_gSub, DL.tr_non, DL.tr_bl, DL.tr_int, DL.tr_str, DL.tr_tup, DL.tr_ref, DL.ad_int, DL.ad_tup, DL.ad_ref, DL.sb_int, DL.mu_int, DL.mu_tup, DL.mu_ref, DL.fd_int, DL.md_int, DL.pw_int, DL.ng_int, DL.i2_int, DL.ci_int, DL.is_bl, DL.is_nn, DL.is_in, DL.is_tn, DL.is_rn, DL.is_sn, DL.ix_tup, DL.ix_ref, DL.ixl_ref, DL.sl_tup, DL.sl_lw, DL.sl_ref, DL.st_ref, DL.ap_append, DL.ap_extend, DL.ap_popI, DL.ap_pop0, DL.ty_ref, DL.ln_tup, DL.ln_ref, DL.ab_int, DL.in_int, DL.in_bl, DL.mn_int, DL.mx_int, DL.sm_of, DL.al_ref, DL.an_ref, DL.li_of, DL.tu_of, DL.so_ref, DL.getV_0, DL.getV_s, DL.set_0, DL.set_s, DL.startD_nil, DL.startD_cons, DL.rep_0, DL.rep_s, DL.wipe_nil, DL.wipe_cons, DL.isB_bl, DL.isN_int, DL.someD_some, DL.at0, DL.at1, DL.at2, DL.at3, DL.at4, DL.at5, DL.up1_same, DL.up_up]
    by_cases hb : 0 < b0'
    · rw [if_pos (decide_eq_true hb)]
      unfold d__law_take_5
      try simp only [lstAt_known ha1, len4, ix4_0, DL.ap_dC, DL.ap_dVar, DL.ap_dNil, DL.ap_dCons, DL.ap_dTup, DL.ap_dLst, DL.ap_dOp, DL.ap_dB, DL.ap_dChain, DL.ap_dTru, DL.ap_dAndT, DL.ap_dOrT, DL.ap_dNotT, DL.ap_dAndV, DL.ap_dOrV, DL.ap_dNotV, DL.ap_dIf, DL.ap_dUn, DL.ap_dCall, DL.ap_dNoPart, DL.ap_dPart, DL.ap_dSl, DL.ap_dBM, DL.ap_dBM0, DL.ap_dFn, DL.ap_dLc, DL.ap_dYes, DL.ap_dRg1, DL.ap_dRg2, DL.ap_dLrg, DL.ap_dTrg, DL.ap_iAny, DL.ap_iRng1, DL.ap_iRng2, DL.ap_iRng3, DL.ap_rng1P, DL.ap_rng2P, DL.ap_rng3P, DL.ap_iZip, DL.ap_dLzip, DL.ap_dZ2, DL.ap_iEnm, DL.ap_a1, DL.ap_a2, DL.ap_sqT, DL.ap_sqR, DL.ap_dNext, DL.ap_dSeq, DL.ap_dBreak, DL.ap_dCont, DL.ap_dDrop, DL.ap_dRet, DL.ap_dRetN, DL.ap_dIfS, DL.ap_dAsg, DL.ap_dPar, DL.ap_a3, DL.ap_dPar3, DL.ap_dAug, DL.ap_dAugS, DL.ap_dFor, DL.ap_gSet, DL.ap_gTup, DL.ap_gNil, DL.ap_gCons, DL.ap_gSub, DL.tr_non, DL.tr_bl, DL.tr_int, DL.tr_str, DL.tr_tup, DL.tr_ref, DL.ad_int, DL.ad_tup, DL.ad_ref, DL.sb_int, DL.mu_int, DL.mu_tup, DL.mu_ref, DL.fd_int, DL.md_int, DL.pw_int, DL.ng_int, DL.i2_int, DL.ci_int, DL.is_bl, DL.is_nn, DL.is_in, DL.is_tn, DL.is_rn, DL.is_sn, DL.ix_tup, DL.ix_ref, DL.ixl_ref, DL.sl_tup, DL.sl_lw, DL.sl_ref, DL.st_ref, DL.ap_append, DL.ap_extend, DL.ap_popI, DL.ap_pop0, DL.ty_ref, DL.ln_tup, DL.ln_ref, DL.ab_int, DL.in_int, DL.in_bl, DL.mn_int, DL.mx_int, DL.sm_of, DL.al_ref, DL.an_ref, DL.li_of, DL.tu_of, DL.so_ref, DL.getV_0, DL.getV_s, DL.set_0, DL.set_s, DL.startD_nil, DL.startD_cons, DL.rep_0, DL.rep_s, DL.wipe_nil, DL.wipe_cons, DL.isB_bl, DL.isN_int, DL.someD_some, DL.at0, DL.at1, DL.at2, DL.at3, DL.at4, DL.at5, DL.up1_same, DL.up_up]
      refine ⟨hm, div_ok hm hm', ?_⟩
      exact h _ _ (Int.emod_nonneg _ (by omega)) (Int.emod_lt_of_pos _ hm) (Bag.put ha1 hc1 (Int.ediv_nonneg g0 (by omega)) g1 g1' g2 hl hn) (ge.trans ExtB.wrote)
    · rw [if_neg (by simpa using hb)]
      unfold d__law_take_8
      try simp only [lstAt_known ha1, DL.ap_dC, DL.ap_dVar, DL.ap_dNil, DL.ap_dCons, DL.ap_dTup, DL.ap_dLst, DL.ap_dOp, DL.ap_dB, DL.ap_dChain, DL.ap_dTru, DL.ap_dAndT, DL.ap_dOrT, DL.ap_dNotT, DL.ap_dAndV, DL.ap_dOrV, DL.ap_dNotV, DL.ap_dIf, DL.ap_dUn, DL.ap_dCall, DL.ap_dNoPart, DL.ap_dPart, DL.ap_dSl, DL.ap_dBM, DL.ap_dBM0, DL.ap_dFn, DL.ap_dLc, DL.ap_dYes, DL.ap_dRg1, DL.ap_dRg2, DL.ap_dLrg, DL.ap_dTrg, DL.ap_iAny, DL.ap_iRng1, DL.ap_iRng2, DL.ap_iRng3, DL.ap_rng1P, DL.ap_rng2P, DL.ap_rng3P, DL.ap_iZip, DL.ap_dLzip, DL.ap_dZ2, DL.ap_iEnm, DL.ap_a1, DL.ap_a2, DL.ap_sqT, DL.ap_sqR, DL.ap_dNext, DL.ap_dSeq, DL.ap_dBreak, DL.ap_dCont, DL.ap_dDrop, DL.ap_dRet, DL.ap_dRetN, DL.ap_dIfS, DL.ap_dAsg, DL.ap_dPar, DL.ap_a3, DL.ap_dPar3, DL.ap_dAug, DL.ap_dAugS, DL.ap_dFor, DL.ap_gSet, DL.ap_gTup, DL.ap_gNil, DL.ap_gCons, DL.ap_gSub, DL.tr_non, DL.tr_bl, DL.tr_int, DL.tr_str, DL.tr_tup, DL.tr_ref, DL.ad_int, DL.ad_tup, DL.ad_ref, DL.sb_int, DL.mu_int, DL.mu_tup, DL.mu_ref, DL.fd_int, DL.md_int, DL.pw_int, DL.ng_int, DL.i2_int, DL.ci_int, DL.is_bl, DL.is_nn, DL.is_in, DL.is_tn, DL.is_rn, DL.is_sn, DL.ix_tup, DL.ix_ref, DL.ixl_ref, DL.sl_tup, DL.sl_lw, DL.sl_ref, DL.st_ref, DL.ap_append, DL.ap_extend, DL.ap_popI, DL.ap_pop0, DL.ty_ref, DL.ln_tup, DL.ln_ref, DL.ab_int, DL.in_int, DL.in_bl, DL.mn_int, DL.mx_int, DL.sm_of, DL.al_ref, DL.an_ref, DL.li_of, DL.tu_of, DL.so_ref, DL.getV_0, DL.getV_s, DL.set_0, DL.set_s, DL.startD_nil, DL.startD_cons, DL.rep_0, DL.rep_s, DL.wipe_nil, DL.wipe_cons, DL.isB_bl, DL.isN_int, DL.someD_some, DL.at0, DL.at1, DL.at2, DL.at3, DL.at4, DL.at5, DL.up1_same, DL.up_up]
      have q1 : 0 ≤ (b1' + 1) * 39373 % 1000000007 := Int.emod_nonneg _ (by decide)
      have q2 : (b1' + 1) * 39373 % 1000000007 < 1000000007 := Int.emod_lt_of_pos _ (by decide)
      refine ⟨small_mul (by omega) (by omega), by decide, ?_⟩
      unfold d__law_take_7
      try simp only [DL.ap_dC, DL.ap_dVar, DL.ap_dNil, DL.ap_dCons, DL.ap_dTup, DL.ap_dLst, DL.ap_dOp, DL.ap_dB, DL.ap_dChain, DL.ap_dTru, DL.ap_dAndT, DL.ap_dOrT, DL.ap_dNotT, DL.ap_dAndV, DL.ap_dOrV, DL.ap_dNotV, DL.ap_dIf, DL.ap_dUn, DL.ap_dCall, DL.ap_dNoPart, DL.ap_dPart, DL.ap_dSl, DL.ap_dBM, DL.ap_dBM0, DL.ap_dFn, DL.ap_dLc, DL.ap_dYes, DL.ap_dRg1, DL.ap_dRg2, DL.ap_dLrg, DL.ap_dTrg, DL.ap_iAny, DL.ap_iRng1, DL.ap_iRng2, DL.ap_iRng3, DL.ap_rng1P, DL.ap_rng2P, DL.ap_rng3P, DL.ap_iZip, DL.ap_dLzip, DL.ap_dZ2, DL.ap_iEnm, DL.ap_a1, DL.ap_a2, DL.ap_sqT, DL.ap_sqR, DL.ap_dNext, DL.ap_dSeq, DL.ap_dBreak, DL.ap_dCont, DL.ap_dDrop, DL.ap_dRet, DL.ap_dRetN, DL.ap_dIfS, DL.ap_dAsg, DL.ap_dPar, DL.ap_a3, DL.ap_dPar3, DL.ap_dAug, DL.ap_dAugS, DL.ap_dFor, DL.ap_gSet, DL.ap_gTup, DL.ap_gNil, DL.ap_gCons, DL.ap_gSub, DL.tr_non, DL.tr_bl, DL.tr_int, DL.tr_str, DL.tr_tup, DL.tr_ref, DL.ad_int, DL.ad_tup, DL.ad_ref, DL.sb_int, DL.mu_int, DL.mu_tup, DL.mu_ref, DL.fd_int, DL.md_int, DL.pw_int, DL.ng_int, DL.i2_int, DL.ci_int, DL.is_bl, DL.is_nn, DL.is_in, DL.is_tn, DL.is_rn, DL.is_sn, DL.ix_tup, DL.ix_ref, DL.ixl_ref, DL.sl_tup, DL.sl_lw, DL.sl_ref, DL.st_ref, DL.ap_append, DL.ap_extend, DL.ap_popI, DL.ap_pop0, DL.ty_ref, DL.ln_tup, DL.ln_ref, DL.ab_int, DL.in_int, DL.in_bl, DL.mn_int, DL.mx_int, DL.sm_of, DL.al_ref, DL.an_ref, DL.li_of, DL.tu_of, DL.so_ref, DL.getV_0, DL.getV_s, DL.set_0, DL.set_s, DL.startD_nil, DL.startD_cons, DL.rep_0, DL.rep_s, DL.wipe_nil, DL.wipe_cons, DL.isB_bl, DL.isN_int, DL.someD_some, DL.at0, DL.at1, DL.at2, DL.at3, DL.at4, DL.at5, DL.up1_same, DL.up_up]
      refine ⟨small_mul q1 (by omega), by decide, small_mul' (by decide) (by decide), by decide, ?_⟩
      unfold d__law_take_6
      try simp only [DL.ap_dC, DL.ap_dVar, DL.ap_dNil, DL.ap_dCons, DL.ap_dTup, DL.ap_dLst, DL.ap_dOp, DL.ap_dB, DL.ap_dChain, DL.ap_dTru, DL.ap_dAndT, DL.ap_dOrT, DL.ap_dNotT, DL.ap_dAndV, DL.ap_dOrV, DL.ap_dNotV, DL.ap_dIf, DL.ap_dUn, DL.ap_dCall, DL.ap_dNoPart, DL.ap_dPart, DL.ap_dSl, DL.ap_dBM, DL.ap_dBM0, DL.ap_dFn, DL.ap_dLc, DL.ap_dYes, DL.ap_dRg1, DL.ap_dRg2, DL.ap_dLrg, DL.ap_dTrg, DL.ap_iAny, DL.ap_iRng1, DL.ap_iRng2, DL.ap_iRng3, DL.ap_rng1P, DL.ap_rng2P, DL.ap_rng3P, DL.ap_iZip, DL.ap_dLzip, DL.ap_dZ2, DL.ap_iEnm, DL.ap_a1, DL.ap_a2, DL.ap_sqT, DL.ap_sqR, DL.ap_dNext, DL.ap_dSeq, DL.ap_dBreak, DL.ap_dCont, DL.ap_dDrop, DL.ap_dRet, DL.ap_dRetN, DL.ap_dIfS, DL.ap_dAsg, DL.ap_dPar, DL.ap_a3, DL.ap_dPar3, DL.ap_dAug, DL.ap_dAugS, DL.ap_dFor, DL.ap_gSet, DL.ap_gTup, DL.ap_gNil, DL.ap_gCons, DL.ap_gSub, DL.tr_non, DL.tr_bl, DL.tr_int, DL.tr_str, DL.tr_tup, DL.tr_ref, DL.ad_int, DL.ad_tup, DL.ad_ref, DL.sb_int, DL.mu_int, DL.mu_tup, DL.mu_ref, DL.fd_int, DL.md_int, DL.pw_int, DL.ng_int, DL.i2_int, DL.ci_int, DL.is_bl, DL.is_nn, DL.is_in, DL.is_tn, DL.is_rn, DL.is_sn, DL.ix_tup, DL.ix_ref, DL.ixl_ref, DL.sl_tup, DL.sl_lw, DL.sl_ref, DL.st_ref, DL.ap_append, DL.ap_extend, DL.ap_popI, DL.ap_pop0, DL.ty_ref, DL.ln_tup, DL.ln_ref, DL.ab_int, DL.in_int, DL.in_bl, DL.mn_int, DL.mx_int, DL.sm_of, DL.al_ref, DL.an_ref, DL.li_of, DL.tu_of, DL.so_ref, DL.getV_0, DL.getV_s, DL.set_0, DL.set_s, DL.startD_nil, DL.startD_cons, DL.rep_0, DL.rep_s, DL.wipe_nil, DL.wipe_cons, DL.isB_bl, DL.isN_int, DL.someD_some, DL.at0, DL.at1, DL.at2, DL.at3, DL.at4, DL.at5, DL.up1_same, DL.up_up]
      refine ⟨div_ok (by decide) (by decide), hm, ?_⟩
      exact h _ _ (Int.emod_nonneg _ (by omega)) (Int.emod_lt_of_pos _ hm) ⟨b0', b1', b2', ns, ha1, hc1, g0, g1, g1', g2, hl, hn⟩ ge
  unfold d__law_take
  try simp only [lstAt_known ha, DL.ap_dC, DL.ap_dVar, DL.ap_dNil, DL.ap_dCons, DL.ap_dTup, DL.ap_dLst, DL.ap_dOp, DL.ap_dB, DL.ap_dChain, DL.ap_dTru, DL.ap_dAndT, DL.ap_dOrT, DL.ap_dNotT, DL.ap_dAndV, DL.ap_dOrV, DL.ap_dNotV, DL.ap_dIf, DL.ap_dUn, DL.ap_dCall, DL.ap_dNoPart, DL.ap_dPart, DL.ap_dSl, DL.ap_dBM, DL.ap_dBM0, DL.ap_dFn, DL.ap_dLc, DL.ap_dYes, DL.ap_dRg1, DL.ap_dRg2, DL.ap_dLrg, DL.ap_dTrg, DL.ap_iAny, DL.ap_iRng1, DL.ap_iRng2, DL.ap_iRng3, DL.ap_rng1P, DL.ap_rng2P, DL.ap_rng3P, DL.ap_iZip, DL.ap_dLzip, DL.ap_dZ2, DL.ap_iEnm, DL.ap_a1, DL.ap_a2, DL.ap_sqT, DL.ap_sqR, DL.ap_dNext, DL.ap_dSeq, DL.ap_dBreak, DL.ap_dCont, DL.ap_dDrop, DL.ap_dRet, DL.ap_dRetN, DL.ap_dIfS, DL.ap_dAsg, DL.ap_dPar, DL.ap_a3, DL.ap_dPar3, DL.ap_dAug, DL.ap_dAugS, DL.ap_dFor, DL.ap_gSet, DL.ap_gTup, DL.ap_gNil, DL.ap_gCons, DL.ap_gSub, DL.tr_non, DL.tr_bl, DL.tr_int, DL.tr_str, DL.tr_tup, DL.tr_ref, DL.ad_int, DL.ad_tup, DL.ad_ref, DL.sb_int, DL.mu_int, DL.mu_tup, DL.mu_ref, DL.fd_int, DL.md_int, DL.pw_int, DL.ng_int, DL.i2_int, DL.ci_int, DL.is_bl, DL.is_nn, DL.is_in, DL.is_tn, DL.is_rn, DL.is_sn, DL.ix_tup, DL.ix_ref, DL.ixl_ref, DL.sl_tup, DL.sl_lw, DL.sl_ref, DL.st_ref, DL.ap_append, DL.ap_extend, DL.ap_popI, DL.ap_pop0, DL.ty_ref, DL.ln_tup, DL.ln_ref, DL.ab_int, DL.in_int, DL.in_bl, DL.mn_int, DL.mx_int, DL.sm_of, DL.al_ref, DL.an_ref, DL.li_of, DL.tu_of, DL.so_ref, DL.getV_0, DL.getV_s, DL.set_0, DL.set_s, DL.startD_nil, DL.startD_cons, DL.rep_0, DL.rep_s, DL.wipe_nil, DL.wipe_cons, DL.isB_bl, DL.isN_int, DL.someD_some, DL.at0, DL.at1, DL.at2, DL.at3, DL.at4, DL.at5, DL.up1_same, DL.up_up]
  refine eq_ints ?_
  try simp only [DL.ap_dC, DL.ap_dVar, DL.ap_dNil, DL.ap_dCons, DL.ap_dTup, DL.ap_dLst, DL.ap_dOp, DL.ap_dB, DL.ap_dChain, DL.ap_dTru, DL.ap_dAndT, DL.ap_dOrT, DL.ap_dNotT, DL.ap_dAndV, DL.ap_dOrV, DL.ap_dNotV, DL.ap_dIf, DL.ap_dUn, DL.ap_dCall, DL.ap_dNoPart, DL.ap_dPart, DL.ap_dSl, DL.ap_dBM, DL.ap_dBM0, DL.ap_dFn, DL.ap_dLc, DL.ap_dYes, DL.ap_dRg1, DL.ap_dRg2, DL.ap_dLrg, DL.ap_dTrg, DL.ap_iAny, DL.ap_iRng1, DL.ap_iRng2, DL.ap_iRng3, DL.ap_rng1P, DL.ap_rng2P, DL.ap_rng3P, DL.ap_iZip, DL.ap_dLzip, DL.ap_dZ2, DL.ap_iEnm, DL.ap_a1, DL.ap_a2, DL.ap_sqT, DL.ap_sqR, DL.ap_dNext, DL.ap_dSeq, DL.ap_dBreak, DL.ap_dCont, DL.ap_dDrop, DL.ap_dRet, DL.ap_dRetN, DL.ap_dIfS, DL.ap_dAsg, DL.ap_dPar, DL.ap_a3, DL.ap_dPar3, DL.ap_dAug, DL.ap_dAugS, DL.ap_dFor, DL.ap_gSet, DL.ap_gTup, DL.ap_gNil, DL.ap_gCons, DL.ap_gSub, DL.tr_non, DL.tr_bl, DL.tr_int, DL.tr_str, DL.tr_tup, DL.tr_ref, DL.ad_int, DL.ad_tup, DL.ad_ref, DL.sb_int, DL.mu_int, DL.mu_tup, DL.mu_ref, DL.fd_int, DL.md_int, DL.pw_int, DL.ng_int, DL.i2_int, DL.ci_int, DL.is_bl, DL.is_nn, DL.is_in, DL.is_tn, DL.is_rn, DL.is_sn, DL.ix_tup, DL.ix_ref, DL.ixl_ref, DL.sl_tup, DL.sl_lw, DL.sl_ref, DL.st_ref, DL.ap_append, DL.ap_extend, DL.ap_popI, DL.ap_pop0, DL.ty_ref, DL.ln_tup, DL.ln_ref, DL.ab_int, DL.in_int, DL.in_bl, DL.mn_int, DL.mx_int, DL.sm_of, DL.al_ref, DL.an_ref, DL.li_of, DL.tu_of, DL.so_ref, DL.getV_0, DL.getV_s, DL.set_0, DL.set_s, DL.startD_nil, DL.startD_cons, DL.rep_0, DL.rep_s, DL.wipe_nil, DL.wipe_cons, DL.isB_bl, DL.isN_int, DL.someD_some, DL.at0, DL.at1, DL.at2, DL.at3, DL.at4, DL.at5, DL.up1_same, DL.up_up]
  by_cases hb0 : b0 = 0
  · rw [if_pos (decide_eq_true hb0)]
    try simp only [lstAt_known ha, lstAt_known hc, DL.ap_dC, DL.ap_dVar, DL.ap_dNil, DL.ap_dCons, DL.ap_dTup, DL.ap_dLst, DL.ap_dOp, DL.ap_dB, DL.ap_dChain, DL.ap_dTru, DL.ap_dAndT, DL.ap_dOrT, DL.ap_dNotT, DL.ap_dAndV, DL.ap_dOrV, DL.ap_dNotV, DL.ap_dIf, DL.ap_dUn, DL.ap_dCall, DL.ap_dNoPart, DL.ap_dPart, DL.ap_dSl, DL.ap_dBM, DL.ap_dBM0, DL.ap_dFn, DL.ap_dLc, DL.ap_dYes, DL.ap_dRg1, DL.ap_dRg2, DL.ap_dLrg, DL.ap_dTrg, DL.ap_iAny, DL.ap_iRng1, DL.ap_iRng2, DL.ap_iRng3, DL.ap_rng1P, DL.ap_rng2P, DL.ap_rng3P, DL.ap_iZip, DL.ap_dLzip, DL.ap_dZ2, DL.ap_iEnm, DL.ap_a1, DL.ap_a2, DL.ap_sqT, DL.ap_sqR, DL.ap_dNext, DL.ap_dSeq, DL.ap_dBreak, DL.ap_dCont, DL.ap_dDrop, DL.ap_dRet, DL.ap_dRetN, DL.ap_dIfS, DL.ap_dAsg, DL.ap_dPar, DL.ap_a3, DL.ap_dPar3, DL.ap_dAug, DL.ap_dAugS, DL.ap_dFor, DL.ap_gSet, DL.ap_gTup, DL.ap_gNil, DL.ap_gCons, DL.ap_gSub, DL.tr_non, DL.tr_bl, DL.tr_int, DL.tr_str, DL.tr_tup, DL.tr_ref, DL.ad_int, DL.ad_tup, DL.ad_ref, DL.sb_int, DL.mu_int, DL.mu_tup, DL.mu_ref, DL.fd_int, DL.md_int, DL.pw_int, DL.ng_int, DL.i2_int, DL.ci_int, DL.is_bl, DL.is_nn, DL.is_in, DL.is_tn, DL.is_rn, DL.is_sn, DL.ix_tup, DL.ix_ref, DL.ixl_ref, DL.sl_tup, DL.sl_lw, DL.sl_ref, DL.st_ref, DL.ap_append, DL.ap_extend, DL.ap_popI, DL.ap_pop0, DL.ty_ref, DL.ln_tup, DL.ln_ref, DL.ab_int, DL.in_int, DL.in_bl, DL.mn_int, DL.mx_int, DL.sm_of, DL.al_ref, DL.an_ref, DL.li_of, DL.tu_of, DL.so_ref, DL.getV_0, DL.getV_s, DL.set_0, DL.set_s, DL.startD_nil, DL.startD_cons, DL.rep_0, DL.rep_s, DL.wipe_nil, DL.wipe_cons, DL.isB_bl, DL.isN_int, DL.someD_some, DL.at0, DL.at1, DL.at2, DL.at3, DL.at4, DL.at5, DL.up1_same, DL.up_up]
    intro p hp
    rw [cut_from h2]
    refine ⟨line (show 1 ≤ 1000000 by decide), fun q hq => ?_⟩
    have npq : p ≠ q := fun e => by rw [e, up1_same] at hq; cases hq
    refine lstAt_of (by rw [up1_ne npq]; exact up1_same) (lstAt_of up1_same ⟨?_, fun r hr => lstAt_of up1_same ?_⟩)
    · rw [List.length_drop, List.length_map, List.length_singleton]; exact line (by omega)
    · obtain ⟨x, hx, ex⟩ := head_or (k := b2.toNat) hn
      rw [ex]
      try simp only [DL.ap_dC, DL.ap_dVar, DL.ap_dNil, DL.ap_dCons, DL.ap_dTup, DL.ap_dLst, DL.ap_dOp, DL.ap_dB, DL.ap_dChain, DL.ap_dTru, DL.ap_dAndT, DL.ap_dOrT, DL.ap_dNotT, DL.ap_dAndV, DL.ap_dOrV, DL.ap_dNotV, DL.ap_dIf, DL.ap_dUn, DL.ap_dCall, DL.ap_dNoPart, DL.ap_dPart, DL.ap_dSl, DL.ap_dBM, DL.ap_dBM0, DL.ap_dFn, DL.ap_dLc, DL.ap_dYes, DL.ap_dRg1, DL.ap_dRg2, DL.ap_dLrg, DL.ap_dTrg, DL.ap_iAny, DL.ap_iRng1, DL.ap_iRng2, DL.ap_iRng3, DL.ap_rng1P, DL.ap_rng2P, DL.ap_rng3P, DL.ap_iZip, DL.ap_dLzip, DL.ap_dZ2, DL.ap_iEnm, DL.ap_a1, DL.ap_a2, DL.ap_sqT, DL.ap_sqR, DL.ap_dNext, DL.ap_dSeq, DL.ap_dBreak, DL.ap_dCont, DL.ap_dDrop, DL.ap_dRet, DL.ap_dRetN, DL.ap_dIfS, DL.ap_dAsg, DL.ap_dPar, DL.ap_a3, DL.ap_dPar3, DL.ap_dAug, DL.ap_dAugS, DL.ap_dFor, DL.ap_gSet, DL.ap_gTup, DL.ap_gNil, DL.ap_gCons, DL.ap_gSub, DL.tr_non, DL.tr_bl, DL.tr_int, DL.tr_str, DL.tr_tup, DL.tr_ref, DL.ad_int, DL.ad_tup, DL.ad_ref, DL.sb_int, DL.mu_int, DL.mu_tup, DL.mu_ref, DL.fd_int, DL.md_int, DL.pw_int, DL.ng_int, DL.i2_int, DL.ci_int, DL.is_bl, DL.is_nn, DL.is_in, DL.is_tn, DL.is_rn, DL.is_sn, DL.ix_tup, DL.ix_ref, DL.ixl_ref, DL.sl_tup, DL.sl_lw, DL.sl_ref, DL.st_ref, DL.ap_append, DL.ap_extend, DL.ap_popI, DL.ap_pop0, DL.ty_ref, DL.ln_tup, DL.ln_ref, DL.ab_int, DL.in_int, DL.in_bl, DL.mn_int, DL.mx_int, DL.sm_of, DL.al_ref, DL.an_ref, DL.li_of, DL.tu_of, DL.so_ref, DL.getV_0, DL.getV_s, DL.set_0, DL.set_s, DL.startD_nil, DL.startD_cons, DL.rep_0, DL.rep_s, DL.wipe_nil, DL.wipe_cons, DL.isB_bl, DL.isN_int, DL.someD_some, DL.at0, DL.at1, DL.at2, DL.at3, DL.at4, DL.at5, DL.up1_same, DL.up_up]
      -- the cells of the bag behind the new lists
      have e3 := ((Ext.new (c := .lst ((ns.map D.int).drop b2.toNat)) hp).trans (Ext.new (c := .lst [D.int 0]) hq)).trans (Ext.new (c := .lst ((ns.map D.int).drop b2.toNat ++ [D.int 0])) hr)
      generalize up1 (up1 (up1 S p (.lst ((ns.map D.int).drop b2.toNat))) q (.lst [D.int 0])) r (.lst ((ns.map D.int).drop b2.toNat ++ [D.int 0])) = S1 at e3 ⊢
      have ha1 := e3 _ _ ha
      have hc1 := e3 _ _ hc
      unfold d__law_take_4
      try simp only [lstAt_known ha1, len4, ix4_2, DL.ap_dC, DL.ap_dVar, DL.ap_dNil, DL.ap_dCons, DL.ap_dTup, DL.ap_dLst, DL.ap_dOp, DL.ap_dB, DL.ap_dChain, DL.ap_dTru, DL.ap_dAndT, DL.ap_dOrT, DL.ap_dNotT, DL.ap_dAndV, DL.ap_dOrV, DL.ap_dNotV, DL.ap_dIf, DL.ap_dUn, DL.ap_dCall, DL.ap_dNoPart, DL.ap_dPart, DL.ap_dSl, DL.ap_dBM, DL.ap_dBM0, DL.ap_dFn, DL.ap_dLc, DL.ap_dYes, DL.ap_dRg1, DL.ap_dRg2, DL.ap_dLrg, DL.ap_dTrg, DL.ap_iAny, DL.ap_iRng1, DL.ap_iRng2, DL.ap_iRng3, DL.ap_rng1P, DL.ap_rng2P, DL.ap_rng3P, DL.ap_iZip, DL.ap_dLzip, DL.ap_dZ2, DL.ap_iEnm, DL.ap_a1, DL.ap_a2, DL.ap_sqT, DL.ap_sqR, DL.ap_dNext, DL.ap_dSeq, DL.ap_dBreak, DL.ap_dCont, DL.ap_dDrop, DL.ap_dRet, DL.ap_dRetN, DL.ap_dIfS, DL.ap_dAsg, DL.ap_dPar, DL.ap_a3, DL.ap_dPar3, DL.ap_dAug, DL.ap_dAugS, DL.ap_dFor, DL.ap_gSet, DL.ap_gTup, DL.ap_gNil, DL.ap_gCons, DL.ap_gSub, DL.tr_non, DL.tr_bl, DL.tr_int, DL.tr_str, DL.tr_tup, DL.tr_ref, DL.ad_int, DL.ad_tup, DL.ad_ref, DL.sb_int, DL.mu_int, DL.mu_tup, DL.mu_ref, DL.fd_int, DL.md_int, DL.pw_int, DL.ng_int, DL.i2_int, DL.ci_int, DL.is_bl, DL.is_nn, DL.is_in, DL.is_tn, DL.is_rn, DL.is_sn, DL.ix_tup, DL.ix_ref, DL.ixl_ref, DL.sl_tup, DL.sl_lw, DL.sl_ref, DL.st_ref, DL.ap_append, DL.ap_extend, DL.ap_popI, DL.ap_pop0, DL.ty_ref, DL.ln_tup, DL.ln_ref, DL.ab_int, DL.in_int, DL.in_bl, DL.mn_int, DL.mx_int, DL.sm_of, DL.al_ref, DL.an_ref, DL.li_of, DL.tu_of, DL.so_ref, DL.getV_0, DL.getV_s, DL.set_0, DL.set_s, DL.startD_nil, DL.startD_cons, DL.rep_0, DL.rep_s, DL.wipe_nil, DL.wipe_cons, DL.isB_bl, DL.isN_int, DL.someD_some, DL.at0, DL.at1, DL.at2, DL.at3, DL.at4, DL.at5, DL.up1_same, DL.up_up]
      -- from the word of the first number on
      have mid : ∀ (b0' : Int) (S2 : Sto), S2 a = some (.lst [.int b0', .int b1, .int (b2 + 1), .ref c]) → S2 c = some (.lst (ns.map D.int)) → 0 ≤ b0' → ExtB a S S2 →
          d__law_take_2 EP { nx := d__law_take_9 EP { nx := fun _ S' => Q .non S', rt := Q }, rt := Q } [some (.ref a), some (.int m), some (.int x), none, none, none, none] S2 := by
        intro b0' S2 ha2 hc2 g0 ge
        unfold d__law_take_2
        try simp only [lstAt_known ha2, DL.ap_dC, DL.ap_dVar, DL.ap_dNil, DL.ap_dCons, DL.ap_dTup, DL.ap_dLst, DL.ap_dOp, DL.ap_dB, DL.ap_dChain, DL.ap_dTru, DL.ap_dAndT, DL.ap_dOrT, DL.ap_dNotT, DL.ap_dAndV, DL.ap_dOrV, DL.ap_dNotV, DL.ap_dIf, DL.ap_dUn, DL.ap_dCall, DL.ap_dNoPart, DL.ap_dPart, DL.ap_dSl, DL.ap_dBM, DL.ap_dBM0, DL.ap_dFn, DL.ap_dLc, DL.ap_dYes, DL.ap_dRg1, DL.ap_dRg2, DL.ap_dLrg, DL.ap_dTrg, DL.ap_iAny, DL.ap_iRng1, DL.ap_iRng2, DL.ap_iRng3, DL.ap_rng1P, DL.ap_rng2P, DL.ap_rng3P, DL.ap_iZip, DL.ap_dLzip, DL.ap_dZ2, DL.ap_iEnm, DL.ap_a1, DL.ap_a2, DL.ap_sqT, DL.ap_sqR, DL.ap_dNext, DL.ap_dSeq, DL.ap_dBreak, DL.ap_dCont, DL.ap_dDrop, DL.ap_dRet, DL.ap_dRetN, DL.ap_dIfS, DL.ap_dAsg, DL.ap_dPar, DL.ap_a3, DL.ap_dPar3, DL.ap_dAug, DL.ap_dAugS, DL.ap_dFor, DL.ap_gSet, DL.ap_gTup, DL.ap_gNil, DL.ap_gCons, DL.ap_gSub, DL.tr_non, DL.tr_bl, DL.tr_int, DL.tr_str, DL.tr_tup, DL.tr_ref, DL.ad_int, DL.ad_tup, DL.ad_ref, DL.sb_int, DL.mu_int, DL.mu_tup, DL.mu_ref, DL.fd_int, DL.md_int, DL.pw_int, DL.ng_int, DL.i2_int, DL.ci_int, DL.is_bl, DL.is_nn, DL.is_in, DL.is_tn, DL.is_rn, DL.is_sn, DL.ix_tup, DL.ix_ref, DL.ixl_ref, DL.sl_tup, DL.sl_lw, DL.sl_ref, DL.st_ref, DL.ap_append, DL.ap_extend, DL.ap_popI, DL.ap_pop0, DL.ty_ref, DL.ln_tup, DL.ln_ref, DL.ab_int, DL.in_int, DL.in_bl, DL.mn_int, DL.mx_int, DL.sm_of, DL.al_ref, DL.an_ref, DL.li_of, DL.tu_of, DL.so_ref, DL.getV_0, DL.getV_s, DL.set_0, DL.set_s, DL.startD_nil, DL.startD_cons, DL.rep_0, DL.rep_s, DL.wipe_nil, DL.wipe_cons, DL.isB_bl, DL.isN_int, DL.someD_some, DL.at0, DL.at1, DL.at2, DL.at3, DL.at4, DL.at5, DL.up1_same, DL.up_up]
        refine ⟨small_mul' (by decide) (by decide), by decide, small_mul (by decide) (by decide), ?_⟩
        unfold d__law_take_1
        try simp only [lstAt_known ha2, len4, ix4_1, DL.ap_dC, DL.ap_dVar, DL.ap_dNil, DL.ap_dCons, DL.ap_dTup, DL.ap_dLst, DL.ap_dOp, DL.ap_dB, DL.ap_dChain, DL.ap_dTru, DL.ap_dAndT, DL.ap_dOrT, DL.ap_dNotT, DL.ap_dAndV, DL.ap_dOrV, DL.ap_dNotV, DL.ap_dIf, DL.ap_dUn, DL.ap_dCall, DL.ap_dNoPart, DL.ap_dPart, DL.ap_dSl, DL.ap_dBM, DL.ap_dBM0, DL.ap_dFn, DL.ap_dLc, DL.ap_dYes, DL.ap_dRg1, DL.ap_dRg2, DL.ap_dLrg, DL.ap_dTrg, DL.ap_iAny, DL.ap_iRng1, DL.ap_iRng2, DL.ap_iRng3, DL.ap_rng1P, DL.ap_rng2P, DL.ap_rng3P, DL.ap_iZip, DL.ap_dLzip, DL.ap_dZ2, DL.ap_iEnm, DL.ap_a1, DL.ap_a2, DL.ap_sqT, DL.ap_sqR, DL.ap_dNext, DL.ap_dSeq, DL.ap_dBreak, DL.ap_dCont, DL.ap_dDrop, DL.ap_dRet, DL.ap_dRetN, DL.ap_dIfS, DL.ap_dAsg, DL.ap_dPar, DL.ap_a3, DL.ap_dPar3, DL.ap_dAug, DL.ap_dAugS, DL.ap_dFor, DL.ap_gSet, DL.ap_gTup, DL.ap_gNil, DL.ap_gCons, DL.ap_gSub, DL.tr_non, DL.tr_bl, DL.tr_int, DL.tr_str, DL.tr_tup, DL.tr_ref, DL.ad_int, DL.ad_tup, DL.ad_ref, DL.sb_int, DL.mu_int, DL.mu_tup, DL.mu_ref, DL.fd_int, DL.md_int, DL.pw_int, DL.ng_int, DL.i2_int, DL.ci_int, DL.is_bl, DL.is_nn, DL.is_in, DL.is_tn, DL.is_rn, DL.is_sn, DL.ix_tup, DL.ix_ref, DL.ixl_ref, DL.sl_tup, DL.sl_lw, DL.sl_ref, DL.st_ref, DL.ap_append, DL.ap_extend, DL.ap_popI, DL.ap_pop0, DL.ty_ref, DL.ln_tup, DL.ln_ref, DL.ab_int, DL.in_int, DL.in_bl, DL.mn_int, DL.mx_int, DL.sm_of, DL.al_ref, DL.an_ref, DL.li_of, DL.tu_of, DL.so_ref, DL.getV_0, DL.getV_s, DL.set_0, DL.set_s, DL.startD_nil, DL.startD_cons, DL.rep_0, DL.rep_s, DL.wipe_nil, DL.wipe_cons, DL.isB_bl, DL.isN_int, DL.someD_some, DL.at0, DL.at1, DL.at2, DL.at3, DL.at4, DL.at5, DL.up1_same, DL.up_up]
        refine ⟨by decide, ?_⟩
        have q1 : 0 ≤ (b1 * 48271 + x % 2147483647 + 7919 * (b2 + 1)) % 2147483647 := Int.emod_nonneg _ (by decide)
        have q2 : (b1 * 48271 + x % 2147483647 + 7919 * (b2 + 1)) % 2147483647 < 2147483647 := Int.emod_lt_of_pos _ (by decide)
        exact rest _ _ b0' _ (b2 + 1) _ up1_same (by rw [up1_ne nca]; exact hc2) g0 q1 (by omega) (by omega) (ge.trans ExtB.wrote)
      unfold d__law_take_3
      try simp only [DL.ap_dC, DL.ap_dVar, DL.ap_dNil, DL.ap_dCons, DL.ap_dTup, DL.ap_dLst, DL.ap_dOp, DL.ap_dB, DL.ap_dChain, DL.ap_dTru, DL.ap_dAndT, DL.ap_dOrT, DL.ap_dNotT, DL.ap_dAndV, DL.ap_dOrV, DL.ap_dNotV, DL.ap_dIf, DL.ap_dUn, DL.ap_dCall, DL.ap_dNoPart, DL.ap_dPart, DL.ap_dSl, DL.ap_dBM, DL.ap_dBM0, DL.ap_dFn, DL.ap_dLc, DL.ap_dYes, DL.ap_dRg1, DL.ap_dRg2, DL.ap_dLrg, DL.ap_dTrg, DL.ap_iAny, DL.ap_iRng1, DL.ap_iRng2, DL.ap_iRng3, DL.ap_rng1P, DL.ap_rng2P, DL.ap_rng3P, DL.ap_iZip, DL.ap_dLzip, DL.ap_dZ2, DL.ap_iEnm, DL.ap_a1, DL.ap_a2, DL.ap_sqT, DL.ap_sqR, DL.ap_dNext, DL.ap_dSeq, DL.ap_dBreak, DL.ap_dCont, DL.ap_dDrop, DL.ap_dRet, DL.ap_dRetN, DL.ap_dIfS, DL.ap_dAsg, DL.ap_dPar, DL.ap_a3, DL.ap_dPar3, DL.ap_dAug, DL.ap_dAugS, DL.ap_dFor, DL.ap_gSet, DL.ap_gTup, DL.ap_gNil, DL.ap_gCons, DL.ap_gSub, DL.tr_non, DL.tr_bl, DL.tr_int, DL.tr_str, DL.tr_tup, DL.tr_ref, DL.ad_int, DL.ad_tup, DL.ad_ref, DL.sb_int, DL.mu_int, DL.mu_tup, DL.mu_ref, DL.fd_int, DL.md_int, DL.pw_int, DL.ng_int, DL.i2_int, DL.ci_int, DL.is_bl, DL.is_nn, DL.is_in, DL.is_tn, DL.is_rn, DL.is_sn, DL.ix_tup, DL.ix_ref, DL.ixl_ref, DL.sl_tup, DL.sl_lw, DL.sl_ref, DL.st_ref, DL.ap_append, DL.ap_extend, DL.ap_popI, DL.ap_pop0, DL.ty_ref, DL.ln_tup, DL.ln_ref, DL.ab_int, DL.in_int, DL.in_bl, DL.mn_int, DL.mx_int, DL.sm_of, DL.al_ref, DL.an_ref, DL.li_of, DL.tu_of, DL.so_ref, DL.getV_0, DL.getV_s, DL.set_0, DL.set_s, DL.startD_nil, DL.startD_cons, DL.rep_0, DL.rep_s, DL.wipe_nil, DL.wipe_cons, DL.isB_bl, DL.isN_int, DL.someD_some, DL.at0, DL.at1, DL.at2, DL.at3, DL.at4, DL.at5, DL.up1_same, DL.up_up]
      refine ⟨⟨by decide, by decide, by decide⟩, ?_⟩
      rw [pow18]
      have ge1 : ExtB a S (up1 S1 a (.lst [.int b0, .int b1, .int (b2 + 1), .ref c])) := e3.but.trans ExtB.wrote
      by_cases hx2 : (1000000000000000000 : Int) ≤ x
      · rw [if_pos (decide_eq_true hx2)]
        try simp only [lstAt_known (up1_same (S := S1) (a := a)), len4, ix4_0, DL.ap_dC, DL.ap_dVar, DL.ap_dNil, DL.ap_dCons, DL.ap_dTup, DL.ap_dLst, DL.ap_dOp, DL.ap_dB, DL.ap_dChain, DL.ap_dTru, DL.ap_dAndT, DL.ap_dOrT, DL.ap_dNotT, DL.ap_dAndV, DL.ap_dOrV, DL.ap_dNotV, DL.ap_dIf, DL.ap_dUn, DL.ap_dCall, DL.ap_dNoPart, DL.ap_dPart, DL.ap_dSl, DL.ap_dBM, DL.ap_dBM0, DL.ap_dFn, DL.ap_dLc, DL.ap_dYes, DL.ap_dRg1, DL.ap_dRg2, DL.ap_dLrg, DL.ap_dTrg, DL.ap_iAny, DL.ap_iRng1, DL.ap_iRng2, DL.ap_iRng3, DL.ap_rng1P, DL.ap_rng2P, DL.ap_rng3P, DL.ap_iZip, DL.ap_dLzip, DL.ap_dZ2, DL.ap_iEnm, DL.ap_a1, DL.ap_a2, DL.ap_sqT, DL.ap_sqR, DL.ap_dNext, DL.ap_dSeq, DL.ap_dBreak, DL.ap_dCont, DL.ap_dDrop, DL.ap_dRet, DL.ap_dRetN, DL.ap_dIfS, DL.ap_dAsg, DL.ap_dPar, DL.ap_a3, DL.ap_dPar3, DL.ap_dAug, DL.ap_dAugS, DL.ap_dFor, DL.ap_gSet, DL.ap_gTup, DL.ap_gNil, DL.ap_gCons, DL.ap_gSub, DL.tr_non, DL.tr_bl, DL.tr_int, DL.tr_str, DL.tr_tup, DL.tr_ref, DL.ad_int, DL.ad_tup, DL.ad_ref, DL.sb_int, DL.mu_int, DL.mu_tup, DL.mu_ref, DL.fd_int, DL.md_int, DL.pw_int, DL.ng_int, DL.i2_int, DL.ci_int, DL.is_bl, DL.is_nn, DL.is_in, DL.is_tn, DL.is_rn, DL.is_sn, DL.ix_tup, DL.ix_ref, DL.ixl_ref, DL.sl_tup, DL.sl_lw, DL.sl_ref, DL.st_ref, DL.ap_append, DL.ap_extend, DL.ap_popI, DL.ap_pop0, DL.ty_ref, DL.ln_tup, DL.ln_ref, DL.ab_int, DL.in_int, DL.in_bl, DL.mn_int, DL.mx_int, DL.sm_of, DL.al_ref, DL.an_ref, DL.li_of, DL.tu_of, DL.so_ref, DL.getV_0, DL.getV_s, DL.set_0, DL.set_s, DL.startD_nil, DL.startD_cons, DL.rep_0, DL.rep_s, DL.wipe_nil, DL.wipe_cons, DL.isB_bl, DL.isN_int, DL.someD_some, DL.at0, DL.at1, DL.at2, DL.at3, DL.at4, DL.at5, DL.up1_same, DL.up_up]
        exact mid x _ up1_same (by rw [up1_ne nca]; exact hc1) hx (e3.but.trans ExtB.wrote)
      · rw [if_neg (by simpa using hx2)]
        exact mid b0 _ up1_same (by rw [up1_ne nca]; exact hc1) h0 ge1
  · rw [if_neg (by simpa using hb0)]
    exact rest none none b0 b1 b2 S ha hc h0 h1 h1' h2 (ExtB.refl a S)
end Cb

set_option Elab.async false
set_option linter.all false
set_option maxRecDepth 100000
set_option maxHeartbeats 4000000
/-! draws of things -/
namespace Cc
open PySem DL L2 Ca Cb
/-- the items of a tuple, of a list beside the bag -/
def Its (a : Addr) (S : Sto) (x : D) (xs : List D) : Prop := x = .tup xs ∨ ∃ b, x = .ref b ∧ S b = some (.lst xs) ∧ b ≠ a
def sp__law_some : FSp := fun ds S Q _ => ∃ (a c : Addr) (x : D) (xs : List D), ds = [.ref a, x] ∧ Bag a c S ∧ Its a S x xs ∧ xs ≠ [] ∧ xs.length ≤ 1000000000000 ∧
  ∀ d S', d ∈ xs → Bag a c S' → ExtB a S S' → Q d S'
def sp__law_mixed : FSp := fun ds S Q _ => ∃ (a c : Addr) (x : D) (xs : List D), ds = [.ref a, x] ∧ Bag a c S ∧ Its a S x xs ∧ isDs 62 xs = true ∧ xs.length ≤ 1000000 ∧
  ∀ p ys S', ys.Perm xs → Bag a c S' → ExtB a S S' → S p = none → S' p = some (.lst ys) → Q (.ref p) S'
/-- a drawn coinage: k kinds, values rising -/
structure CoinOk (k : Nat) (g cap : Int) (vs cs : List Int) : Prop where
  lv : vs.length = k
  lc : cs.length = k
  up : vs.Pairwise (· < ·)
  pos : ∀ v ∈ vs, 1 ≤ v ∧ (v ≤ 100 ∨ v ≤ g)
  cap : ∀ c ∈ cs, 0 ≤ c ∧ c ≤ cap
def coin (vs cs : List Int) : D := .tup [tI vs, tI cs]
def sp__law_coinage : FSp := fun ds S Q _ => ∃ (a c : Addr) (k : Nat) (g cap : Int), ds = [.ref a, .int (k : Nat), .int g, .int cap] ∧ Bag a c S ∧ 1 ≤ k ∧ (k : Int) ≤ g ∧ g ≤ 100000 ∧ 0 ≤ cap ∧ cap ≤ 100000000 ∧
  ∀ vs cs S', CoinOk k g cap vs cs → Bag a c S' → ExtB a S S' → Q (coin vs cs) S'
def sp__law_row : FSp := fun ds S Q _ => ∃ (a c : Addr) (vs r : List D) (most : Int), ds = [.ref a, .tup (.tup vs :: r), .int most] ∧ Bag a c S ∧ vs.length ≤ sizeLine ∧ 0 ≤ most ∧ most ≤ 100000000 ∧
  ∀ rs S', rs.length = vs.length → (∀ n ∈ rs, 0 ≤ n ∧ n ≤ most) → Bag a c S' → ExtB a S S' → Q (tI rs) S'
/-! ### alike -/
mutual
/-- the same, in all parts, with n nodes -/
inductive Sa (S : Sto) : Nat → D → D → Prop where
  | non : Sa S 1 .non .non
  | bl (b : Bool) : Sa S 1 (.bl b) (.bl b)
  | int (i : Int) : Sa S 1 (.int i) (.int i)
  | str (z : Str) : Sa S 1 (.str z) (.str z)
  | tup {n : Nat} {xs ys : List D} : SaL S n xs ys → Sa S (n + 1) (.tup xs) (.tup ys)
  | lst {n : Nat} {a b : Addr} {xs ys : List D} : S a = some (.lst xs) → S b = some (.lst ys) → SaL S n xs ys → Sa S (n + 1) (.ref a) (.ref b)
inductive SaL (S : Sto) : Nat → List D → List D → Prop where
  | nil : SaL S 0 [] []
  | cons {n m : Nat} {x y : D} {xs ys : List D} : Sa S n x y → SaL S m xs ys → SaL S (n + m) (x :: xs) (y :: ys)
end
mutual
theorem Sa.ext {S S' : Sto} (e : Ext S S') : ∀ {n : Nat} {x y : D}, Sa S n x y → Sa S' n x y
  | _, _, _, .non => .non
  | _, _, _, .bl b => .bl b
  | _, _, _, .int b => .int b
  | _, _, _, .str b => .str b
  | _, _, _, .tup h => .tup (SaL.ext e h)
  | _, _, _, .lst h h' k => .lst (e _ _ h) (e _ _ h') (SaL.ext e k)
theorem SaL.ext {S S' : Sto} (e : Ext S S') : ∀ {n : Nat} {x y : List D}, SaL S n x y → SaL S' n x y
  | _, _, _, .nil => .nil
  | _, _, _, .cons h t => .cons (Sa.ext e h) (SaL.ext e t)
end
theorem Sa.pos {S : Sto} {n : Nat} {x y : D} (h : Sa S n x y) : 1 ≤ n := by cases h <;> omega
theorem SaL.len {S : Sto} : ∀ {n : Nat} {x y : List D}, SaL S n x y → x.length = y.length ∧ x.length ≤ n
  | _, _, _, .nil => ⟨rfl, Nat.le_refl _⟩
  | _, _, _, .cons h t => by
    have := Sa.pos h
    obtain ⟨a, b⟩ := SaL.len t
    exact ⟨by rw [List.length_cons, List.length_cons, a], by rw [List.length_cons]; omega⟩
theorem SaL.app {S : Sto} : ∀ {n m : Nat} {x y u v : List D}, SaL S n x y → SaL S m u v → SaL S (n + m) (x ++ u) (y ++ v)
  | _, _, _, _, _, _, .nil, k => by rw [Nat.zero_add]; exact k
  | _, _, _, _, _, _, .cons h t, k => by rw [Nat.add_assoc]; exact .cons h (SaL.app t k)
theorem zipD_app : ∀ {x y u v : List D}, x.length = y.length → zipD (x ++ u) (y ++ v) = zipD x y ++ zipD u v
  | [], [], _, _, _ => rfl
  | a :: x, b :: y, u, v, h => by
    show D.tup [a, b] :: zipD (x ++ u) (y ++ v) = _
    rw [zipD_app (by simpa using h)]; rfl
  | [], _ :: _, _, _, h => by simp at h
  | _ :: _, [], _, _, h => by simp at h
theorem sa_ints (S : Sto) : ∀ ns : List Int, SaL S ns.length (ns.map D.int) (ns.map D.int)
  | [] => .nil
  | n :: r => by rw [List.length_cons, Nat.add_comm]; exact .cons (.int n) (sa_ints S r)
theorem sa_tI (S : Sto) (ns : List Int) : Sa S (ns.length + 1) (tI ns) (tI ns) := .tup (sa_ints S ns)
def sp__law_alike : FSp := fun ds S Q _ => ∃ (x y : D) (n : Nat), ds = [x, y] ∧ Sa S n x y ∧ n ≤ 1000000 ∧ ∀ S', Ext S S' → Q (.bl true) S'
def d__law_some (EP : Exc → Sto → Prop) : DS :=
  (dRet (dOp dIx (dVar 1) (dFn Cb.sp__law_take (xF EP) (dCons (dVar 0) (dCons (dCall dLen (dCons (dVar 1) dNil)) dNil)))))
def d__law_mixed_1 (EP : Exc → Sto → Prop) : DS :=
  (dSeq (dWhile (dB (dOp dNe (dVar 2) (dLst dNil))) (dDrop (dBM "list" dAppend (dVar 3) (dCons (dBM "list" dPopI (dVar 2) (dCons (dFn Cb.sp__law_take (xF EP) (dCons (dVar 0) (dCons (dCall dLen (dCons (dVar 2) dNil)) dNil))) dNil)) dNil))))
  (dRet (dVar 3)))
def d__law_mixed (EP : Exc → Sto → Prop) : DS :=
  (dSeq (dPar 2 3 (dCons (dCall dList1 (dCons (dVar 1) dNil)) (dCons (dLst dNil) dNil)))
  (d__law_mixed_1 EP))
def d__law_coinage_1 (EP : Exc → Sto → Prop) : DS :=
  (dRet (dTup (dCons (dCall dTuple1 (dCons (dVar 5) dNil)) (dCons (dCall dTuple1 (dCons (dLc (iAny (dVar 5)) (gSet 6) dYes (dFn Cb.sp__law_take xNo (dCons (dVar 0) (dCons (dOp dAdd (dVar 3) (dC (.int 1))) dNil))) [6]) dNil)) dNil))))
def d__law_coinage_2 (EP : Exc → Sto → Prop) : DS :=
  (dSeq (dIfS (dOrT (dB (dOp dEq (dFn Cb.sp__law_take (xF EP) (dCons (dVar 0) (dCons (dC (.int 2)) dNil))) (dC (.int 0)))) (dB (dOp (dCmpI (fun i j => decide (i < j))) (dCall dLen (dCons (dVar 5) dNil)) (dVar 1)))) (dAsg (dCall dSortI (dCons (dSl dSlc (dFn sp__law_mixed (xF EP) (dCons (dVar 0) (dCons (dLrg (dRg2 (dC (.int 1)) (dOp dAdd (dVar 2) (dC (.int 1))))) dNil))) dNoPart (dPart (dVar 1))) dNil)) (gSet 5)) dNext)
  (d__law_coinage_1 EP))
def d__law_coinage_3 (EP : Exc → Sto → Prop) : DS :=
  (dSeq (dAsg (dCall dSortI (dCons (dSl dSlc (dVar 4) dNoPart (dPart (dVar 1))) dNil)) (gSet 5))
  (d__law_coinage_2 EP))
def d__law_coinage (EP : Exc → Sto → Prop) : DS :=
  (dSeq (dAsg (dFn sp__law_some (xF EP) (dCons (dVar 0) (dCons (dLst (dCons (dLst (dCons (dC (.int 1)) (dCons (dC (.int 2)) (dCons (dC (.int 5)) (dCons (dC (.int 10)) dNil))))) (dCons (dLst (dCons (dC (.int 5)) (dCons (dC (.int 10)) (dCons (dC (.int 25)) (dCons (dC (.int 100)) dNil))))) (dCons (dLst (dCons (dC (.int 1)) (dCons (dC (.int 3)) (dCons (dC (.int 4)) dNil)))) (dCons (dLst (dCons (dC (.int 2)) (dCons (dC (.int 3)) (dCons (dC (.int 7)) dNil)))) (dCons (dLst (dCons (dC (.int 1)) (dCons (dC (.int 5)) (dCons (dC (.int 10)) (dCons (dC (.int 50)) dNil))))) (dCons (dLst (dCons (dC (.int 3)) (dCons (dC (.int 6)) (dCons (dC (.int 12)) (dCons (dC (.int 24)) dNil))))) dNil))))))) dNil))) (gSet 4))
  (d__law_coinage_3 EP))
def d__law_row (EP : Exc → Sto → Prop) : DS :=
  (dRet (dCall dTuple1 (dCons (dLc (iAny (dOp dIx (dVar 1) (dC (.int 0)))) (gSet 3) dYes (dFn Cb.sp__law_take xNo (dCons (dVar 0) (dCons (dOp dAdd (dVar 2) (dC (.int 1))) dNil))) [3]) dNil)))
def d__law_alike_1 (EP : Exc → Sto → Prop) : DS :=
  (dDrop (dBM "list" dExtend (dVar 2) (dCons (dLzip (dCons (dVar 4) (dCons (dVar 5) dNil))) dNil)))
def d__law_alike_2 (EP : Exc → Sto → Prop) : DS :=
  (dIfS (dTru (dCall dIsi (dCons (dVar 4) (dCons (dTup (dCons (dC (.ty "tuple")) (dCons (dC (.ty "list")) dNil))) dNil)))) (dSeq (dIfS (dOrT (dB (dOp dNe (dCall dIsi (dCons (dVar 4) (dCons (dC (.ty "tuple")) dNil))) (dCall dIsi (dCons (dVar 5) (dCons (dC (.ty "tuple")) dNil))))) (dB (dOp dNe (dCall dLen (dCons (dVar 4) dNil)) (dCall dLen (dCons (dVar 5) dNil))))) (dRet (dC (.bl false))) dNext)
  (d__law_alike_1 EP)) (dIfS (dB (dOp dNe (dVar 4) (dVar 5))) (dRet (dC (.bl false))) dNext))
def d__law_alike_3 (EP : Exc → Sto → Prop) : DS :=
  (dSeq (dIfS (dB (dOp dNe (dCall dIsi (dCons (dVar 4) (dCons (dTup (dCons (dC (.ty "tuple")) (dCons (dC (.ty "list")) dNil))) dNil))) (dCall dIsi (dCons (dVar 5) (dCons (dTup (dCons (dC (.ty "tuple")) (dCons (dC (.ty "list")) dNil))) dNil))))) (dRet (dC (.bl false))) dNext)
  (d__law_alike_2 EP))
def d__law_alike_4 (EP : Exc → Sto → Prop) : DS :=
  (dSeq (dIfS (dOrT (dB (dOp dNe (dCall dIsi (dCons (dVar 4) (dCons (dC (.ty "bool")) dNil))) (dCall dIsi (dCons (dVar 5) (dCons (dC (.ty "bool")) dNil))))) (dB (dOp dNe (dCall dIsi (dCons (dVar 4) (dCons (dC (.ty "str")) dNil))) (dCall dIsi (dCons (dVar 5) (dCons (dC (.ty "str")) dNil)))))) (dRet (dC (.bl false))) dNext)
  (d__law_alike_3 EP))
def d__law_alike_5 (EP : Exc → Sto → Prop) : DS :=
  (dSeq (dAug (dI2 fun i j => i + j) 3 (dC (.int 1)))
  (d__law_alike_4 EP))
def d__law_alike_6 (EP : Exc → Sto → Prop) : DS :=
  (dSeq (dWhile (dB (dOp (dCmpI (fun i j => decide (i < j))) (dVar 3) (dCall dLen (dCons (dVar 2) dNil)))) (dSeq (dAsg (dOp dIx (dVar 2) (dVar 3)) (gTup 2 (gCons (gSet 4) (gCons (gSet 5) gNil))))
  (d__law_alike_5 EP)))
  (dRet (dC (.bl true))))
def d__law_alike (EP : Exc → Sto → Prop) : DS :=
  (dSeq (dPar 2 3 (dCons (dLst (dCons (dTup (dCons (dVar 0) (dCons (dVar 1) dNil))) dNil)) (dCons (dC (.int 0)) dNil)))
  (d__law_alike_6 EP))

theorem its_sq {a : Addr} {S : Sto} {x : D} {xs : List D} {P : List D → (Sto → Prop) → Prop} (h : Its a S x xs) (p : ∀ chk, P xs chk) : sqD x S P := by
  rcases h with rfl | ⟨b, rfl, hb, _⟩
  · exact p _
  · exact ⟨xs, hb, p _⟩
theorem its_len {a : Addr} {S : Sto} {x : D} {xs : List D} {Q : DQ} (h : Its a S x xs) (q : Q (.int xs.length) S) : dLen [x] S Q := by
  rcases h with rfl | ⟨b, rfl, hb, _⟩
  · exact q
  · exact ⟨xs, hb, q⟩
theorem its_ix {a : Addr} {S : Sto} {x d : D} {xs : List D} {i : Int} {Q : DQ} (h : Its a S x xs) (e : atI xs i = some d) (q : Q d S) : dIx x (.int i) S Q := by
  rcases h with rfl | ⟨b, rfl, hb, _⟩
  · exact ⟨d, e, q⟩
  · exact ⟨xs, d, hb, e, q⟩
theorem Its.extB {a : Addr} {S S' : Sto} {x : D} {xs : List D} (h : Its a S x xs) (e : ExtB a S S') : Its a S' x xs := by
  rcases h with rfl | ⟨b, rfl, hb, n⟩
  · exact .inl rfl
  · exact .inr ⟨b, rfl, e b _ n hb, n⟩
theorem len__law_some : ∀ ds S P EP, sp__law_some ds S P EP → ds.length = 2 := by rintro _ S P EP ⟨a, c, x, xs, rfl, _⟩; rfl
theorem pure__law_some : ∀ ds S Q EP, sp__law_some ds S Q EP → d__law_some EP { nx := fun _ S' => Q .non S', rt := Q } (startD 2 ds) S := by
  rintro ds S Q EP ⟨a, c, x, xs, rfl, hb, hx, hne, hl, h⟩
  unfold d__law_some
  try simp only [DL.ap_dC, DL.ap_dVar, DL.ap_dNil, DL.ap_dCons, DL.ap_dTup, DL.ap_dLst, DL.ap_dOp, DL.ap_dB, DL.ap_dChain, DL.ap_dTru, DL.ap_dAndT, DL.ap_dOrT, DL.ap_dNotT, DL.ap_dAndV, DL.ap_dOrV, DL.ap_dNotV, DL.ap_dIf, DL.ap_dUn, DL.ap_dCall, DL.ap_dNoPart, DL.ap_dPart, DL.ap_dSl, DL.ap_dBM, DL.ap_dBM0, DL.ap_dFn, DL.ap_dLc, DL.ap_dYes, DL.ap_dRg1, DL.ap_dRg2, DL.ap_dLrg, DL.ap_dTrg, DL.ap_iAny, DL.ap_iRng1, DL.ap_iRng2, DL.ap_iRng3, DL.ap_rng1P, DL.ap_rng2P, DL.ap_rng3P, DL.ap_iZip, DL.ap_dLzip, DL.ap_dZ2, DL.ap_iEnm, DL.ap_a1, DL.ap_a2, DL.ap_sqT, DL.ap_sqR, DL.ap_dNext, DL.ap_dSeq, DL.ap_dBreak, DL.ap_dCont, DL.ap_dDrop, DL.ap_dRet, DL.ap_dRetN, DL.ap_dIfS, DL.ap_dAsg, DL.ap_dPar, DL.ap_a3, DL.ap_dPar3, DL.ap_dAug, DL.ap_dAugS, DL.ap_dFor, DL.ap_gSet, DL.ap_gTup, DL.ap_gNil, DL.ap_gCons, DL.ap_gSub, DL.tr_non, DL.tr_bl, DL.tr_int, DL.tr_str, DL.tr_tup, DL.tr_ref, DL.ad_int, DL.ad_tup, DL.ad_ref, DL.sb_int, DL.mu_int, DL.mu_tup, DL.mu_ref, DL.fd_int, DL.md_int, DL.pw_int, DL.ng_int, DL.i2_int, DL.ci_int, DL.is_bl, DL.is_nn, DL.is_in, DL.is_tn, DL.is_rn, DL.is_sn, DL.ix_tup, DL.ix_ref, DL.ixl_ref, DL.sl_tup, DL.sl_lw, DL.sl_ref, DL.st_ref, DL.ap_append, DL.ap_extend, DL.ap_popI, DL.ap_pop0, DL.ty_ref, DL.ln_tup, DL.ln_ref, DL.ab_int, DL.in_int, DL.in_bl, DL.mn_int, DL.mx_int, DL.sm_of, DL.al_ref, DL.an_ref, DL.li_of, DL.tu_of, DL.so_ref, DL.getV_0, DL.getV_s, DL.set_0, DL.set_s, DL.startD_nil, DL.startD_cons, DL.rep_0, DL.rep_s, DL.wipe_nil, DL.wipe_cons, DL.isB_bl, DL.isN_int, DL.someD_some, DL.at0, DL.at1, DL.at2, DL.at3, DL.at4, DL.at5, DL.up1_same, DL.up_up]
  have hpos : 0 < xs.length := List.length_pos_iff.mpr hne
  refine its_len hx ⟨a, c, _, rfl, hb, by omega, by omega, fun v S1 h1 h2 hb1 e1 => ?_⟩
  obtain ⟨k, rfl⟩ := Int.eq_ofNat_of_zero_le h1
  have hk : k < xs.length := by omega
  exact its_ix (hx.extB e1) (atn (List.getElem?_eq_getElem hk)) (h _ _ (List.getElem_mem hk) hb1 e1)
theorem erase_perm {α : Type} : ∀ {xs : List α} {j : Nat} {y : α}, xs[j]? = some y → (y :: xs.eraseIdx j).Perm xs
  | [], _, _, h => by simp at h
  | x :: r, 0, y, h => by simp at h; subst h; exact .refl _
  | x :: r, j + 1, y, h => by
    have := erase_perm (xs := r) (j := j) (y := y) (by simpa using h)
    exact (List.Perm.swap x y _).trans (this.cons x)
theorem isDs_erase {n : Nat} {xs : List D} {j : Nat} (h : isDs n xs = true) : isDs n (xs.eraseIdx j) = true := by
  rw [isDs_all] at h ⊢
  exact List.all_eq_true.mpr fun x hx => List.all_eq_true.mp h x (List.mem_of_mem_eraseIdx hx)
theorem isDs_up {n : Nat} {xs : List D} (h : isDs n xs = true) : isDs (n + 1) xs = true := by
  have up : ∀ (n : Nat) (x : D), isD n x = true → isD (n + 1) x = true := by
    intro n
    induction n with
    | zero => intro x hx; cases x <;> simp_all [isD]
    | succ n ih =>
      intro x hx
      cases x <;> first
        | (simp_all [isD]; done)
        | skip
      rename_i xs
      have hx' : isDs n xs = true := by simpa [isD] using hx
      show isDs (n + 1) xs = true
      rw [isDs_all] at hx' ⊢
      exact List.all_eq_true.mpr fun y hy => ih y (List.all_eq_true.mp hx' y hy)
  rw [isDs_all] at h ⊢
  exact List.all_eq_true.mpr fun x hx => up n x (List.all_eq_true.mp h x hx)
theorem len__law_mixed : ∀ ds S P EP, sp__law_mixed ds S P EP → ds.length = 2 := by rintro _ S P EP ⟨a, c, x, xs, rfl, _⟩; rfl
theorem pure__law_mixed : ∀ ds S Q EP, sp__law_mixed ds S Q EP → d__law_mixed EP { nx := fun _ S' => Q .non S', rt := Q } (startD 4 ds) S := by
  rintro ds S Q EP ⟨a, c, x, xs, rfl, hb, hx, hD, hl, h⟩
  unfold d__law_mixed
  try simp only [DL.ap_dC, DL.ap_dVar, DL.ap_dNil, DL.ap_dCons, DL.ap_dTup, DL.ap_dLst, DL.ap_dOp, DL.ap_dB, DL.ap_dChain, DL.ap_dTru, DL.ap_dAndT, DL.ap_dOrT, DL.ap_dNotT, DL.ap_dAndV, DL.ap_dOrV, DL.ap_dNotV, DL.ap_dIf, DL.ap_dUn, DL.ap_dCall, DL.ap_dNoPart, DL.ap_dPart, DL.ap_dSl, DL.ap_dBM, DL.ap_dBM0, DL.ap_dFn, DL.ap_dLc, DL.ap_dYes, DL.ap_dRg1, DL.ap_dRg2, DL.ap_dLrg, DL.ap_dTrg, DL.ap_iAny, DL.ap_iRng1, DL.ap_iRng2, DL.ap_iRng3, DL.ap_rng1P, DL.ap_rng2P, DL.ap_rng3P, DL.ap_iZip, DL.ap_dLzip, DL.ap_dZ2, DL.ap_iEnm, DL.ap_a1, DL.ap_a2, DL.ap_sqT, DL.ap_sqR, DL.ap_dNext, DL.ap_dSeq, DL.ap_dBreak, DL.ap_dCont, DL.ap_dDrop, DL.ap_dRet, DL.ap_dRetN, DL.ap_dIfS, DL.ap_dAsg, DL.ap_dPar, DL.ap_a3, DL.ap_dPar3, DL.ap_dAug, DL.ap_dAugS, DL.ap_dFor, DL.ap_gSet, DL.ap_gTup, DL.ap_gNil, DL.ap_gCons, DL.ap_gSub, DL.tr_non, DL.tr_bl, DL.tr_int, DL.tr_str, DL.tr_tup, DL.tr_ref, DL.ad_int, DL.ad_tup, DL.ad_ref, DL.sb_int, DL.mu_int, DL.mu_tup, DL.mu_ref, DL.fd_int, DL.md_int, DL.pw_int, DL.ng_int, DL.i2_int, DL.ci_int, DL.is_bl, DL.is_nn, DL.is_in, DL.is_tn, DL.is_rn, DL.is_sn, DL.ix_tup, DL.ix_ref, DL.ixl_ref, DL.sl_tup, DL.sl_lw, DL.sl_ref, DL.st_ref, DL.ap_append, DL.ap_extend, DL.ap_popI, DL.ap_pop0, DL.ty_ref, DL.ln_tup, DL.ln_ref, DL.ab_int, DL.in_int, DL.in_bl, DL.mn_int, DL.mx_int, DL.sm_of, DL.al_ref, DL.an_ref, DL.li_of, DL.tu_of, DL.so_ref, DL.getV_0, DL.getV_s, DL.set_0, DL.set_s, DL.startD_nil, DL.startD_cons, DL.rep_0, DL.rep_s, DL.wipe_nil, DL.wipe_cons, DL.isB_bl, DL.isN_int, DL.someD_some, DL.at0, DL.at1, DL.at2, DL.at3, DL.at4, DL.at5, DL.up1_same, DL.up_up]
  refine its_sq hx fun _ => ?_
  (intro l n1; generalize eS_ : up1 _ l _ = S1; have e1 := Ext.new_eq eS_ n1; have f1 := up_eq eS_; clear eS_)
  refine ⟨line (show 0 ≤ 1000000 by decide), ?_⟩
  (intro f n2; generalize eS_ : up1 _ f _ = S2; have e2 := Ext.new_eq eS_ n2; have f2 := up_eq eS_; clear eS_)
  unfold d__law_mixed_1
  try simp only [DL.ap_dC, DL.ap_dVar, DL.ap_dNil, DL.ap_dCons, DL.ap_dTup, DL.ap_dLst, DL.ap_dOp, DL.ap_dB, DL.ap_dChain, DL.ap_dTru, DL.ap_dAndT, DL.ap_dOrT, DL.ap_dNotT, DL.ap_dAndV, DL.ap_dOrV, DL.ap_dNotV, DL.ap_dIf, DL.ap_dUn, DL.ap_dCall, DL.ap_dNoPart, DL.ap_dPart, DL.ap_dSl, DL.ap_dBM, DL.ap_dBM0, DL.ap_dFn, DL.ap_dLc, DL.ap_dYes, DL.ap_dRg1, DL.ap_dRg2, DL.ap_dLrg, DL.ap_dTrg, DL.ap_iAny, DL.ap_iRng1, DL.ap_iRng2, DL.ap_iRng3, DL.ap_rng1P, DL.ap_rng2P, DL.ap_rng3P, DL.ap_iZip, DL.ap_dLzip, DL.ap_dZ2, DL.ap_iEnm, DL.ap_a1, DL.ap_a2, DL.ap_sqT, DL.ap_sqR, DL.ap_dNext, DL.ap_dSeq, DL.ap_dBreak, DL.ap_dCont, DL.ap_dDrop, DL.ap_dRet, DL.ap_dRetN, DL.ap_dIfS, DL.ap_dAsg, DL.ap_dPar, DL.ap_a3, DL.ap_dPar3, DL.ap_dAug, DL.ap_dAugS, DL.ap_dFor, DL.ap_gSet, DL.ap_gTup, DL.ap_gNil, DL.ap_gCons, DL.ap_gSub, DL.tr_non, DL.tr_bl, DL.tr_int, DL.tr_str, DL.tr_tup, DL.tr_ref, DL.ad_int, DL.ad_tup, DL.ad_ref, DL.sb_int, DL.mu_int, DL.mu_tup, DL.mu_ref, DL.fd_int, DL.md_int, DL.pw_int, DL.ng_int, DL.i2_int, DL.ci_int, DL.is_bl, DL.is_nn, DL.is_in, DL.is_tn, DL.is_rn, DL.is_sn, DL.ix_tup, DL.ix_ref, DL.ixl_ref, DL.sl_tup, DL.sl_lw, DL.sl_ref, DL.st_ref, DL.ap_append, DL.ap_extend, DL.ap_popI, DL.ap_pop0, DL.ty_ref, DL.ln_tup, DL.ln_ref, DL.ab_int, DL.in_int, DL.in_bl, DL.mn_int, DL.mx_int, DL.sm_of, DL.al_ref, DL.an_ref, DL.li_of, DL.tu_of, DL.so_ref, DL.getV_0, DL.getV_s, DL.set_0, DL.set_s, DL.startD_nil, DL.startD_cons, DL.rep_0, DL.rep_s, DL.wipe_nil, DL.wipe_cons, DL.isB_bl, DL.isN_int, DL.someD_some, DL.at0, DL.at1, DL.at2, DL.at3, DL.at4, DL.at5, DL.up1_same, DL.up_up]
  have hb2 := (hb.ext e1).ext e2
  have nl := hb.ne n1
  have nf0 : S f = none := e1.none_of n2
  have nf := hb.ne nf0
  have lf : l ≠ f := ne_new f1 n2
  refine ⟨fun m ρ S3 => ∃ rem done : List D, ρ = [some (.ref a), some x, some (.ref l), some (.ref f)] ∧ S3 l = some (.lst rem) ∧ S3 f = some (.lst done) ∧ (done ++ rem).Perm xs ∧ isDs 62 rem = true ∧ m = rem.length ∧ Bag a c S3 ∧ ExtB a S S3, ⟨xs.length, xs, [], rfl, e2 _ _ f1, f2, .refl _, hD, rfl, hb2, (e1.trans e2).but⟩, ?_⟩
  rintro m ρ S3 ⟨rem, done, rfl, g1, g2, gp, gd, rfl, gb, ge⟩
  try simp only [DL.ap_dC, DL.ap_dVar, DL.ap_dNil, DL.ap_dCons, DL.ap_dTup, DL.ap_dLst, DL.ap_dOp, DL.ap_dB, DL.ap_dChain, DL.ap_dTru, DL.ap_dAndT, DL.ap_dOrT, DL.ap_dNotT, DL.ap_dAndV, DL.ap_dOrV, DL.ap_dNotV, DL.ap_dIf, DL.ap_dUn, DL.ap_dCall, DL.ap_dNoPart, DL.ap_dPart, DL.ap_dSl, DL.ap_dBM, DL.ap_dBM0, DL.ap_dFn, DL.ap_dLc, DL.ap_dYes, DL.ap_dRg1, DL.ap_dRg2, DL.ap_dLrg, DL.ap_dTrg, DL.ap_iAny, DL.ap_iRng1, DL.ap_iRng2, DL.ap_iRng3, DL.ap_rng1P, DL.ap_rng2P, DL.ap_rng3P, DL.ap_iZip, DL.ap_dLzip, DL.ap_dZ2, DL.ap_iEnm, DL.ap_a1, DL.ap_a2, DL.ap_sqT, DL.ap_sqR, DL.ap_dNext, DL.ap_dSeq, DL.ap_dBreak, DL.ap_dCont, DL.ap_dDrop, DL.ap_dRet, DL.ap_dRetN, DL.ap_dIfS, DL.ap_dAsg, DL.ap_dPar, DL.ap_a3, DL.ap_dPar3, DL.ap_dAug, DL.ap_dAugS, DL.ap_dFor, DL.ap_gSet, DL.ap_gTup, DL.ap_gNil, DL.ap_gCons, DL.ap_gSub, DL.tr_non, DL.tr_bl, DL.tr_int, DL.tr_str, DL.tr_tup, DL.tr_ref, DL.ad_int, DL.ad_tup, DL.ad_ref, DL.sb_int, DL.mu_int, DL.mu_tup, DL.mu_ref, DL.fd_int, DL.md_int, DL.pw_int, DL.ng_int, DL.i2_int, DL.ci_int, DL.is_bl, DL.is_nn, DL.is_in, DL.is_tn, DL.is_rn, DL.is_sn, DL.ix_tup, DL.ix_ref, DL.ixl_ref, DL.sl_tup, DL.sl_lw, DL.sl_ref, DL.st_ref, DL.ap_append, DL.ap_extend, DL.ap_popI, DL.ap_pop0, DL.ty_ref, DL.ln_tup, DL.ln_ref, DL.ab_int, DL.in_int, DL.in_bl, DL.mn_int, DL.mx_int, DL.sm_of, DL.al_ref, DL.an_ref, DL.li_of, DL.tu_of, DL.so_ref, DL.getV_0, DL.getV_s, DL.set_0, DL.set_s, DL.startD_nil, DL.startD_cons, DL.rep_0, DL.rep_s, DL.wipe_nil, DL.wipe_cons, DL.isB_bl, DL.isN_int, DL.someD_some, DL.at0, DL.at1, DL.at2, DL.at3, DL.at4, DL.at5, DL.up1_same, DL.up_up]
  refine ⟨line (show 0 ≤ 1000000 by decide), ?_⟩
  (intro q n4; generalize eS_ : up1 _ q _ = S4; have e4 := Ext.new_eq eS_ n4; have f4 := up_eq eS_; clear eS_)
  refine ne_RR (e4 _ _ g1) f4 (isDs_up gd) rfl ?_
  rw [eqDs_nil]
  try simp only [DL.ap_dC, DL.ap_dVar, DL.ap_dNil, DL.ap_dCons, DL.ap_dTup, DL.ap_dLst, DL.ap_dOp, DL.ap_dB, DL.ap_dChain, DL.ap_dTru, DL.ap_dAndT, DL.ap_dOrT, DL.ap_dNotT, DL.ap_dAndV, DL.ap_dOrV, DL.ap_dNotV, DL.ap_dIf, DL.ap_dUn, DL.ap_dCall, DL.ap_dNoPart, DL.ap_dPart, DL.ap_dSl, DL.ap_dBM, DL.ap_dBM0, DL.ap_dFn, DL.ap_dLc, DL.ap_dYes, DL.ap_dRg1, DL.ap_dRg2, DL.ap_dLrg, DL.ap_dTrg, DL.ap_iAny, DL.ap_iRng1, DL.ap_iRng2, DL.ap_iRng3, DL.ap_rng1P, DL.ap_rng2P, DL.ap_rng3P, DL.ap_iZip, DL.ap_dLzip, DL.ap_dZ2, DL.ap_iEnm, DL.ap_a1, DL.ap_a2, DL.ap_sqT, DL.ap_sqR, DL.ap_dNext, DL.ap_dSeq, DL.ap_dBreak, DL.ap_dCont, DL.ap_dDrop, DL.ap_dRet, DL.ap_dRetN, DL.ap_dIfS, DL.ap_dAsg, DL.ap_dPar, DL.ap_a3, DL.ap_dPar3, DL.ap_dAug, DL.ap_dAugS, DL.ap_dFor, DL.ap_gSet, DL.ap_gTup, DL.ap_gNil, DL.ap_gCons, DL.ap_gSub, DL.tr_non, DL.tr_bl, DL.tr_int, DL.tr_str, DL.tr_tup, DL.tr_ref, DL.ad_int, DL.ad_tup, DL.ad_ref, DL.sb_int, DL.mu_int, DL.mu_tup, DL.mu_ref, DL.fd_int, DL.md_int, DL.pw_int, DL.ng_int, DL.i2_int, DL.ci_int, DL.is_bl, DL.is_nn, DL.is_in, DL.is_tn, DL.is_rn, DL.is_sn, DL.ix_tup, DL.ix_ref, DL.ixl_ref, DL.sl_tup, DL.sl_lw, DL.sl_ref, DL.st_ref, DL.ap_append, DL.ap_extend, DL.ap_popI, DL.ap_pop0, DL.ty_ref, DL.ln_tup, DL.ln_ref, DL.ab_int, DL.in_int, DL.in_bl, DL.mn_int, DL.mx_int, DL.sm_of, DL.al_ref, DL.an_ref, DL.li_of, DL.tu_of, DL.so_ref, DL.getV_0, DL.getV_s, DL.set_0, DL.set_s, DL.startD_nil, DL.startD_cons, DL.rep_0, DL.rep_s, DL.wipe_nil, DL.wipe_cons, DL.isB_bl, DL.isN_int, DL.someD_some, DL.at0, DL.at1, DL.at2, DL.at3, DL.at4, DL.at5, DL.up1_same, DL.up_up]
  have hlen : done.length + rem.length = xs.length := by rw [← List.length_append]; exact gp.length_eq
  cases rem with
  | nil =>
    simp only [List.isEmpty_nil, Bool.not_true, Bool.false_eq_true, if_false]
    rw [List.append_nil] at gp
    exact h f done S4 gp (gb.ext e4) (ge.trans e4.but) nf0 (e4 _ _ g2)
  | cons y0 rem0 =>
    simp only [List.isEmpty_cons, Bool.not_false, if_true]
    try simp only [DL.ap_dC, DL.ap_dVar, DL.ap_dNil, DL.ap_dCons, DL.ap_dTup, DL.ap_dLst, DL.ap_dOp, DL.ap_dB, DL.ap_dChain, DL.ap_dTru, DL.ap_dAndT, DL.ap_dOrT, DL.ap_dNotT, DL.ap_dAndV, DL.ap_dOrV, DL.ap_dNotV, DL.ap_dIf, DL.ap_dUn, DL.ap_dCall, DL.ap_dNoPart, DL.ap_dPart, DL.ap_dSl, DL.ap_dBM, DL.ap_dBM0, DL.ap_dFn, DL.ap_dLc, DL.ap_dYes, DL.ap_dRg1, DL.ap_dRg2, DL.ap_dLrg, DL.ap_dTrg, DL.ap_iAny, DL.ap_iRng1, DL.ap_iRng2, DL.ap_iRng3, DL.ap_rng1P, DL.ap_rng2P, DL.ap_rng3P, DL.ap_iZip, DL.ap_dLzip, DL.ap_dZ2, DL.ap_iEnm, DL.ap_a1, DL.ap_a2, DL.ap_sqT, DL.ap_sqR, DL.ap_dNext, DL.ap_dSeq, DL.ap_dBreak, DL.ap_dCont, DL.ap_dDrop, DL.ap_dRet, DL.ap_dRetN, DL.ap_dIfS, DL.ap_dAsg, DL.ap_dPar, DL.ap_a3, DL.ap_dPar3, DL.ap_dAug, DL.ap_dAugS, DL.ap_dFor, DL.ap_gSet, DL.ap_gTup, DL.ap_gNil, DL.ap_gCons, DL.ap_gSub, DL.tr_non, DL.tr_bl, DL.tr_int, DL.tr_str, DL.tr_tup, DL.tr_ref, DL.ad_int, DL.ad_tup, DL.ad_ref, DL.sb_int, DL.mu_int, DL.mu_tup, DL.mu_ref, DL.fd_int, DL.md_int, DL.pw_int, DL.ng_int, DL.i2_int, DL.ci_int, DL.is_bl, DL.is_nn, DL.is_in, DL.is_tn, DL.is_rn, DL.is_sn, DL.ix_tup, DL.ix_ref, DL.ixl_ref, DL.sl_tup, DL.sl_lw, DL.sl_ref, DL.st_ref, DL.ap_append, DL.ap_extend, DL.ap_popI, DL.ap_pop0, DL.ty_ref, DL.ln_tup, DL.ln_ref, DL.ab_int, DL.in_int, DL.in_bl, DL.mn_int, DL.mx_int, DL.sm_of, DL.al_ref, DL.an_ref, DL.li_of, DL.tu_of, DL.so_ref, DL.getV_0, DL.getV_s, DL.set_0, DL.set_s, DL.startD_nil, DL.startD_cons, DL.rep_0, DL.rep_s, DL.wipe_nil, DL.wipe_cons, DL.isB_bl, DL.isN_int, DL.someD_some, DL.at0, DL.at1, DL.at2, DL.at3, DL.at4, DL.at5, DL.up1_same, DL.up_up]
    refine ⟨lstAt_of (e4 _ _ g2) trivial, lstAt_of (e4 _ _ g1) trivial, lstAt_of (e4 _ _ g1) ⟨a, c, _, rfl, gb.ext e4, by simp only [List.length_cons]; omega, by simp only [List.length_cons] at hlen ⊢; omega, fun v S5 v0 v1 hb5 e5 => ?_⟩⟩
    try simp only [DL.ap_dC, DL.ap_dVar, DL.ap_dNil, DL.ap_dCons, DL.ap_dTup, DL.ap_dLst, DL.ap_dOp, DL.ap_dB, DL.ap_dChain, DL.ap_dTru, DL.ap_dAndT, DL.ap_dOrT, DL.ap_dNotT, DL.ap_dAndV, DL.ap_dOrV, DL.ap_dNotV, DL.ap_dIf, DL.ap_dUn, DL.ap_dCall, DL.ap_dNoPart, DL.ap_dPart, DL.ap_dSl, DL.ap_dBM, DL.ap_dBM0, DL.ap_dFn, DL.ap_dLc, DL.ap_dYes, DL.ap_dRg1, DL.ap_dRg2, DL.ap_dLrg, DL.ap_dTrg, DL.ap_iAny, DL.ap_iRng1, DL.ap_iRng2, DL.ap_iRng3, DL.ap_rng1P, DL.ap_rng2P, DL.ap_rng3P, DL.ap_iZip, DL.ap_dLzip, DL.ap_dZ2, DL.ap_iEnm, DL.ap_a1, DL.ap_a2, DL.ap_sqT, DL.ap_sqR, DL.ap_dNext, DL.ap_dSeq, DL.ap_dBreak, DL.ap_dCont, DL.ap_dDrop, DL.ap_dRet, DL.ap_dRetN, DL.ap_dIfS, DL.ap_dAsg, DL.ap_dPar, DL.ap_a3, DL.ap_dPar3, DL.ap_dAug, DL.ap_dAugS, DL.ap_dFor, DL.ap_gSet, DL.ap_gTup, DL.ap_gNil, DL.ap_gCons, DL.ap_gSub, DL.tr_non, DL.tr_bl, DL.tr_int, DL.tr_str, DL.tr_tup, DL.tr_ref, DL.ad_int, DL.ad_tup, DL.ad_ref, DL.sb_int, DL.mu_int, DL.mu_tup, DL.mu_ref, DL.fd_int, DL.md_int, DL.pw_int, DL.ng_int, DL.i2_int, DL.ci_int, DL.is_bl, DL.is_nn, DL.is_in, DL.is_tn, DL.is_rn, DL.is_sn, DL.ix_tup, DL.ix_ref, DL.ixl_ref, DL.sl_tup, DL.sl_lw, DL.sl_ref, DL.st_ref, DL.ap_append, DL.ap_extend, DL.ap_popI, DL.ap_pop0, DL.ty_ref, DL.ln_tup, DL.ln_ref, DL.ab_int, DL.in_int, DL.in_bl, DL.mn_int, DL.mx_int, DL.sm_of, DL.al_ref, DL.an_ref, DL.li_of, DL.tu_of, DL.so_ref, DL.getV_0, DL.getV_s, DL.set_0, DL.set_s, DL.startD_nil, DL.startD_cons, DL.rep_0, DL.rep_s, DL.wipe_nil, DL.wipe_cons, DL.isB_bl, DL.isN_int, DL.someD_some, DL.at0, DL.at1, DL.at2, DL.at3, DL.at4, DL.at5, DL.up1_same, DL.up_up]
    obtain ⟨k, rfl⟩ := Int.eq_ofNat_of_zero_le v0
    have hk : k < (y0 :: rem0).length := by omega
    have g1' : S5 l = some (.lst (y0 :: rem0)) := e5 _ _ nl.1 (e4 _ _ g1)
    have g2' : S5 f = some (.lst done) := e5 _ _ nf.1 (e4 _ _ g2)
    refine ⟨y0 :: rem0, k, (y0 :: rem0)[k], g1', by omega, by simp only [List.length_cons] at hlen hk; omega, ?_, List.getElem?_eq_getElem hk, ?_⟩
    · rw [seqIndex_of (by omega) (by omega)]; simp
    · refine lstAt_of (by rw [up1_ne (Ne.symm lf)]; exact g2') ⟨Nat.lt_of_lt_of_le (show done.length < 1000001 by simp only [List.length_cons] at hlen; omega) (by decide), ?_⟩
      refine ⟨((y0 :: rem0).eraseIdx k).length, by rw [List.length_eraseIdx, if_pos hk]; simp only [List.length_cons]; omega, (y0 :: rem0).eraseIdx k, done ++ [(y0 :: rem0)[k]], (by first | exact rfl | trivial), (by rw [up1_ne lf]; exact up1_same), (by first | exact rfl | exact up1_same), ?_, isDs_erase gd, (by first | exact rfl | trivial), (hb5.put1 nl).put1 nf, ?_⟩
      · rw [List.append_assoc]
        exact ((erase_perm (List.getElem?_eq_getElem hk)).append_left done).trans gp
      · exact (((ge.trans e4.but).trans e5).side n1).side nf0
end Cc

set_option Elab.async false
set_option linter.all false
set_option maxRecDepth 100000
set_option maxHeartbeats 4000000
namespace Cc
open PySem DL L2 Ca Cb
theorem len__law_row : ∀ ds S P EP, sp__law_row ds S P EP → ds.length = 3 := by rintro _ S P EP ⟨a, c, vs, r, m, rfl, _⟩; rfl
theorem pure__law_row : ∀ ds S Q EP, sp__law_row ds S Q EP → d__law_row EP { nx := fun _ S' => Q .non S', rt := Q } (startD 4 ds) S := by
  rintro ds S Q EP ⟨a, c, vs, r, m, rfl, hb, hl, h0, h1, h⟩
  unfold d__law_row
  try simp only [DL.ap_dC, DL.ap_dVar, DL.ap_dNil, DL.ap_dCons, DL.ap_dTup, DL.ap_dLst, DL.ap_dOp, DL.ap_dB, DL.ap_dChain, DL.ap_dTru, DL.ap_dAndT, DL.ap_dOrT, DL.ap_dNotT, DL.ap_dAndV, DL.ap_dOrV, DL.ap_dNotV, DL.ap_dIf, DL.ap_dUn, DL.ap_dCall, DL.ap_dNoPart, DL.ap_dPart, DL.ap_dSl, DL.ap_dBM, DL.ap_dBM0, DL.ap_dFn, DL.ap_dLc, DL.ap_dYes, DL.ap_dRg1, DL.ap_dRg2, DL.ap_dLrg, DL.ap_dTrg, DL.ap_iAny, DL.ap_iRng1, DL.ap_iRng2, DL.ap_iRng3, DL.ap_rng1P, DL.ap_rng2P, DL.ap_rng3P, DL.ap_iZip, DL.ap_dLzip, DL.ap_dZ2, DL.ap_iEnm, DL.ap_a1, DL.ap_a2, DL.ap_sqT, DL.ap_sqR, DL.ap_dNext, DL.ap_dSeq, DL.ap_dBreak, DL.ap_dCont, DL.ap_dDrop, DL.ap_dRet, DL.ap_dRetN, DL.ap_dIfS, DL.ap_dAsg, DL.ap_dPar, DL.ap_a3, DL.ap_dPar3, DL.ap_dAug, DL.ap_dAugS, DL.ap_dFor, DL.ap_gSet, DL.ap_gTup, DL.ap_gNil, DL.ap_gCons, DL.ap_gSub, DL.tr_non, DL.tr_bl, DL.tr_int, DL.tr_str, DL.tr_tup, DL.tr_ref, DL.ad_int, DL.ad_tup, DL.ad_ref, DL.sb_int, DL.mu_int, DL.mu_tup, DL.mu_ref, DL.fd_int, DL.md_int, DL.pw_int, DL.ng_int, DL.i2_int, DL.ci_int, DL.is_bl, DL.is_nn, DL.is_in, DL.is_tn, DL.is_rn, DL.is_sn, DL.ix_tup, DL.ix_ref, DL.ixl_ref, DL.sl_tup, DL.sl_lw, DL.sl_ref, DL.st_ref, DL.ap_append, DL.ap_extend, DL.ap_popI, DL.ap_pop0, DL.ty_ref, DL.ln_tup, DL.ln_ref, DL.ab_int, DL.in_int, DL.in_bl, DL.mn_int, DL.mx_int, DL.sm_of, DL.al_ref, DL.an_ref, DL.li_of, DL.tu_of, DL.so_ref, DL.getV_0, DL.getV_s, DL.set_0, DL.set_s, DL.startD_nil, DL.startD_cons, DL.rep_0, DL.rep_s, DL.wipe_nil, DL.wipe_cons, DL.isB_bl, DL.isN_int, DL.someD_some, DL.at0, DL.at1, DL.at2, DL.at3, DL.at4, DL.at5, DL.up1_same, DL.up_up]
  refine ⟨hl, ?_⟩
  rw [map_id_D vs]
  refine lc_rel id (fun _ y => ∃ n, y = D.int n ∧ 0 ≤ n ∧ n ≤ m) (fun S' => Bag a c S' ∧ ExtB a S S') (fun _ _ => trivial) vs (fun x hx S1 Y hI hY => ?_) S _ ⟨hb, ExtB.refl a S⟩ fun ys S1 hys hI => ?_
  · try simp only [DL.ap_dC, DL.ap_dVar, DL.ap_dNil, DL.ap_dCons, DL.ap_dTup, DL.ap_dLst, DL.ap_dOp, DL.ap_dB, DL.ap_dChain, DL.ap_dTru, DL.ap_dAndT, DL.ap_dOrT, DL.ap_dNotT, DL.ap_dAndV, DL.ap_dOrV, DL.ap_dNotV, DL.ap_dIf, DL.ap_dUn, DL.ap_dCall, DL.ap_dNoPart, DL.ap_dPart, DL.ap_dSl, DL.ap_dBM, DL.ap_dBM0, DL.ap_dFn, DL.ap_dLc, DL.ap_dYes, DL.ap_dRg1, DL.ap_dRg2, DL.ap_dLrg, DL.ap_dTrg, DL.ap_iAny, DL.ap_iRng1, DL.ap_iRng2, DL.ap_iRng3, DL.ap_rng1P, DL.ap_rng2P, DL.ap_rng3P, DL.ap_iZip, DL.ap_dLzip, DL.ap_dZ2, DL.ap_iEnm, DL.ap_a1, DL.ap_a2, DL.ap_sqT, DL.ap_sqR, DL.ap_dNext, DL.ap_dSeq, DL.ap_dBreak, DL.ap_dCont, DL.ap_dDrop, DL.ap_dRet, DL.ap_dRetN, DL.ap_dIfS, DL.ap_dAsg, DL.ap_dPar, DL.ap_a3, DL.ap_dPar3, DL.ap_dAug, DL.ap_dAugS, DL.ap_dFor, DL.ap_gSet, DL.ap_gTup, DL.ap_gNil, DL.ap_gCons, DL.ap_gSub, DL.tr_non, DL.tr_bl, DL.tr_int, DL.tr_str, DL.tr_tup, DL.tr_ref, DL.ad_int, DL.ad_tup, DL.ad_ref, DL.sb_int, DL.mu_int, DL.mu_tup, DL.mu_ref, DL.fd_int, DL.md_int, DL.pw_int, DL.ng_int, DL.i2_int, DL.ci_int, DL.is_bl, DL.is_nn, DL.is_in, DL.is_tn, DL.is_rn, DL.is_sn, DL.ix_tup, DL.ix_ref, DL.ixl_ref, DL.sl_tup, DL.sl_lw, DL.sl_ref, DL.st_ref, DL.ap_append, DL.ap_extend, DL.ap_popI, DL.ap_pop0, DL.ty_ref, DL.ln_tup, DL.ln_ref, DL.ab_int, DL.in_int, DL.in_bl, DL.mn_int, DL.mx_int, DL.sm_of, DL.al_ref, DL.an_ref, DL.li_of, DL.tu_of, DL.so_ref, DL.getV_0, DL.getV_s, DL.set_0, DL.set_s, DL.startD_nil, DL.startD_cons, DL.rep_0, DL.rep_s, DL.wipe_nil, DL.wipe_cons, DL.isB_bl, DL.isN_int, DL.someD_some, DL.at0, DL.at1, DL.at2, DL.at3, DL.at4, DL.at5, DL.up1_same, DL.up_up]
    exact ⟨a, c, _, rfl, hI.1, by omega, by omega, fun v S2 v0 v1 hb2 e2 => hY _ _ ⟨v, rfl, v0, by omega⟩ ⟨hb2, hI.2.trans e2⟩⟩
  · obtain ⟨ns, rfl, hns⟩ := all2_ints hys
    (intro p n2; generalize eS_ : up1 _ p _ = S2; have e2 := Ext.new_eq eS_ n2; have f2 := up_eq eS_; clear eS_)
    refine lstAt_of f2 ?_
    exact h ns S2 hns.length.symm (fun n hn => hns.right (P := fun n => 0 ≤ n ∧ n ≤ m) (fun _ _ h => h) n hn) (hI.1.ext e2) (hI.2.trans e2.but)
/-! ### alike -/
theorem len__law_alike : ∀ ds S P EP, sp__law_alike ds S P EP → ds.length = 2 := by rintro _ S P EP ⟨x, y, n, rfl, _⟩; rfl
theorem sa_kn {S : Sto} {n : Nat} {x y : D} (h : Sa S n x y) : Kn S x ∧ Kn S y := by
  cases h <;> first
    | exact ⟨trivial, trivial⟩
    | (rename_i a _ _; exact ⟨⟨⟨_, ‹_›⟩, trivial⟩, ⟨⟨_, ‹_›⟩, trivial⟩⟩)
theorem sa_ty {S : Sto} {n : Nat} {x y : D} (h : Sa S n x y) : isBl x = isBl y ∧ isSt x = isSt y ∧ (isT x || isL x) = (isT y || isL y) ∧ isT x = isT y := by
  cases h <;> exact ⟨rfl, rfl, rfl, rfl⟩
theorem pure__law_alike : ∀ ds S Q EP, sp__law_alike ds S Q EP → d__law_alike EP { nx := fun _ S' => Q .non S', rt := Q } (startD 6 ds) S := by
  rintro ds S Q EP ⟨x, y, n, rfl, hs, hn, h⟩
  unfold d__law_alike
  try simp only [DL.ap_dC, DL.ap_dVar, DL.ap_dNil, DL.ap_dCons, DL.ap_dTup, DL.ap_dLst, DL.ap_dOp, DL.ap_dB, DL.ap_dChain, DL.ap_dTru, DL.ap_dAndT, DL.ap_dOrT, DL.ap_dNotT, DL.ap_dAndV, DL.ap_dOrV, DL.ap_dNotV, DL.ap_dIf, DL.ap_dUn, DL.ap_dCall, DL.ap_dNoPart, DL.ap_dPart, DL.ap_dSl, DL.ap_dBM, DL.ap_dBM0, DL.ap_dFn, DL.ap_dLc, DL.ap_dYes, DL.ap_dRg1, DL.ap_dRg2, DL.ap_dLrg, DL.ap_dTrg, DL.ap_iAny, DL.ap_iRng1, DL.ap_iRng2, DL.ap_iRng3, DL.ap_rng1P, DL.ap_rng2P, DL.ap_rng3P, DL.ap_iZip, DL.ap_dLzip, DL.ap_dZ2, DL.ap_iEnm, DL.ap_a1, DL.ap_a2, DL.ap_sqT, DL.ap_sqR, DL.ap_dNext, DL.ap_dSeq, DL.ap_dBreak, DL.ap_dCont, DL.ap_dDrop, DL.ap_dRet, DL.ap_dRetN, DL.ap_dIfS, DL.ap_dAsg, DL.ap_dPar, DL.ap_a3, DL.ap_dPar3, DL.ap_dAug, DL.ap_dAugS, DL.ap_dFor, DL.ap_gSet, DL.ap_gTup, DL.ap_gNil, DL.ap_gCons, DL.ap_gSub, DL.tr_non, DL.tr_bl, DL.tr_int, DL.tr_str, DL.tr_tup, DL.tr_ref, DL.ad_int, DL.ad_tup, DL.ad_ref, DL.sb_int, DL.mu_int, DL.mu_tup, DL.mu_ref, DL.fd_int, DL.md_int, DL.pw_int, DL.ng_int, DL.i2_int, DL.ci_int, DL.is_bl, DL.is_nn, DL.is_in, DL.is_tn, DL.is_rn, DL.is_sn, DL.ix_tup, DL.ix_ref, DL.ixl_ref, DL.sl_tup, DL.sl_lw, DL.sl_ref, DL.st_ref, DL.ap_append, DL.ap_extend, DL.ap_popI, DL.ap_pop0, DL.ty_ref, DL.ln_tup, DL.ln_ref, DL.ab_int, DL.in_int, DL.in_bl, DL.mn_int, DL.mx_int, DL.sm_of, DL.al_ref, DL.an_ref, DL.li_of, DL.tu_of, DL.so_ref, DL.getV_0, DL.getV_s, DL.set_0, DL.set_s, DL.startD_nil, DL.startD_cons, DL.rep_0, DL.rep_s, DL.wipe_nil, DL.wipe_cons, DL.isB_bl, DL.isN_int, DL.someD_some, DL.at0, DL.at1, DL.at2, DL.at3, DL.at4, DL.at5, DL.up1_same, DL.up_up]
  refine ⟨line (show 2 ≤ 1000000 by decide), line (show 1 ≤ 1000000 by decide), ?_⟩
  (intro p n1; generalize eS_ : up1 _ p _ = S1; have e1 := Ext.new_eq eS_ n1; have f1 := up_eq eS_; clear eS_)
  unfold d__law_alike_6
  try simp only [DL.ap_dC, DL.ap_dVar, DL.ap_dNil, DL.ap_dCons, DL.ap_dTup, DL.ap_dLst, DL.ap_dOp, DL.ap_dB, DL.ap_dChain, DL.ap_dTru, DL.ap_dAndT, DL.ap_dOrT, DL.ap_dNotT, DL.ap_dAndV, DL.ap_dOrV, DL.ap_dNotV, DL.ap_dIf, DL.ap_dUn, DL.ap_dCall, DL.ap_dNoPart, DL.ap_dPart, DL.ap_dSl, DL.ap_dBM, DL.ap_dBM0, DL.ap_dFn, DL.ap_dLc, DL.ap_dYes, DL.ap_dRg1, DL.ap_dRg2, DL.ap_dLrg, DL.ap_dTrg, DL.ap_iAny, DL.ap_iRng1, DL.ap_iRng2, DL.ap_iRng3, DL.ap_rng1P, DL.ap_rng2P, DL.ap_rng3P, DL.ap_iZip, DL.ap_dLzip, DL.ap_dZ2, DL.ap_iEnm, DL.ap_a1, DL.ap_a2, DL.ap_sqT, DL.ap_sqR, DL.ap_dNext, DL.ap_dSeq, DL.ap_dBreak, DL.ap_dCont, DL.ap_dDrop, DL.ap_dRet, DL.ap_dRetN, DL.ap_dIfS, DL.ap_dAsg, DL.ap_dPar, DL.ap_a3, DL.ap_dPar3, DL.ap_dAug, DL.ap_dAugS, DL.ap_dFor, DL.ap_gSet, DL.ap_gTup, DL.ap_gNil, DL.ap_gCons, DL.ap_gSub, DL.tr_non, DL.tr_bl, DL.tr_int, DL.tr_str, DL.tr_tup, DL.tr_ref, DL.ad_int, DL.ad_tup, DL.ad_ref, DL.sb_int, DL.mu_int, DL.mu_tup, DL.mu_ref, DL.fd_int, DL.md_int, DL.pw_int, DL.ng_int, DL.i2_int, DL.ci_int, DL.is_bl, DL.is_nn, DL.is_in, DL.is_tn, DL.is_rn, DL.is_sn, DL.ix_tup, DL.ix_ref, DL.ixl_ref, DL.sl_tup, DL.sl_lw, DL.sl_ref, DL.st_ref, DL.ap_append, DL.ap_extend, DL.ap_popI, DL.ap_pop0, DL.ty_ref, DL.ln_tup, DL.ln_ref, DL.ab_int, DL.in_int, DL.in_bl, DL.mn_int, DL.mx_int, DL.sm_of, DL.al_ref, DL.an_ref, DL.li_of, DL.tu_of, DL.so_ref, DL.getV_0, DL.getV_s, DL.set_0, DL.set_s, DL.startD_nil, DL.startD_cons, DL.rep_0, DL.rep_s, DL.wipe_nil, DL.wipe_cons, DL.isB_bl, DL.isN_int, DL.someD_some, DL.at0, DL.at1, DL.at2, DL.at3, DL.at4, DL.at5, DL.up1_same, DL.up_up]
  refine ⟨fun m ρ S2 => ∃ (L : List D) (k : Nat) (xs ys : List D) (o4 o5 : Option D), ρ = [some x, some y, some (.ref p), some (.int (k : Nat)), o4, o5] ∧ S2 p = some (.lst L) ∧ L.drop k = zipD xs ys ∧ k + xs.length = L.length ∧ SaL S m xs ys ∧ k + m ≤ n ∧ Ext S S2,
    ⟨n, [.tup [x, y]], 0, [x], [y], none, none, rfl, f1, rfl, rfl, by have := SaL.cons hs .nil; rwa [Nat.add_zero] at this, by omega, e1⟩, ?_⟩
  rintro m ρ S2 ⟨L, k, xs, ys, o4, o5, rfl, g1, gd, gl, gs, gn, ge⟩
  try simp only [DL.ap_dC, DL.ap_dVar, DL.ap_dNil, DL.ap_dCons, DL.ap_dTup, DL.ap_dLst, DL.ap_dOp, DL.ap_dB, DL.ap_dChain, DL.ap_dTru, DL.ap_dAndT, DL.ap_dOrT, DL.ap_dNotT, DL.ap_dAndV, DL.ap_dOrV, DL.ap_dNotV, DL.ap_dIf, DL.ap_dUn, DL.ap_dCall, DL.ap_dNoPart, DL.ap_dPart, DL.ap_dSl, DL.ap_dBM, DL.ap_dBM0, DL.ap_dFn, DL.ap_dLc, DL.ap_dYes, DL.ap_dRg1, DL.ap_dRg2, DL.ap_dLrg, DL.ap_dTrg, DL.ap_iAny, DL.ap_iRng1, DL.ap_iRng2, DL.ap_iRng3, DL.ap_rng1P, DL.ap_rng2P, DL.ap_rng3P, DL.ap_iZip, DL.ap_dLzip, DL.ap_dZ2, DL.ap_iEnm, DL.ap_a1, DL.ap_a2, DL.ap_sqT, DL.ap_sqR, DL.ap_dNext, DL.ap_dSeq, DL.ap_dBreak, DL.ap_dCont, DL.ap_dDrop, DL.ap_dRet, DL.ap_dRetN, DL.ap_dIfS, DL.ap_dAsg, DL.ap_dPar, DL.ap_a3, DL.ap_dPar3, DL.ap_dAug, DL.ap_dAugS, DL.ap_dFor, DL.ap_gSet, DL.ap_gTup, DL.ap_gNil, DL.ap_gCons, DL.ap_gSub, DL.tr_non, DL.tr_bl, DL.tr_int, DL.tr_str, DL.tr_tup, DL.tr_ref, DL.ad_int, DL.ad_tup, DL.ad_ref, DL.sb_int, DL.mu_int, DL.mu_tup, DL.mu_ref, DL.fd_int, DL.md_int, DL.pw_int, DL.ng_int, DL.i2_int, DL.ci_int, DL.is_bl, DL.is_nn, DL.is_in, DL.is_tn, DL.is_rn, DL.is_sn, DL.ix_tup, DL.ix_ref, DL.ixl_ref, DL.sl_tup, DL.sl_lw, DL.sl_ref, DL.st_ref, DL.ap_append, DL.ap_extend, DL.ap_popI, DL.ap_pop0, DL.ty_ref, DL.ln_tup, DL.ln_ref, DL.ab_int, DL.in_int, DL.in_bl, DL.mn_int, DL.mx_int, DL.sm_of, DL.al_ref, DL.an_ref, DL.li_of, DL.tu_of, DL.so_ref, DL.getV_0, DL.getV_s, DL.set_0, DL.set_s, DL.startD_nil, DL.startD_cons, DL.rep_0, DL.rep_s, DL.wipe_nil, DL.wipe_cons, DL.isB_bl, DL.isN_int, DL.someD_some, DL.at0, DL.at1, DL.at2, DL.at3, DL.at4, DL.at5, DL.up1_same, DL.up_up]
  refine lstAt_of g1 ?_
  cases gs with
  | nil =>
    simp only [List.length_nil, Nat.add_zero] at gl
    rw [if_neg (by simp; omega)]
    exact h S2 ge
  | @cons n1 m1 x1 y1 xs1 ys1 hx ht =>
    have hl2 := ht.len
    simp only [List.length_cons] at gl
    rw [if_pos (by simp; omega)]
    refine lstAt_of g1 ?_
    have hk : L[k]? = some (.tup [x1, y1]) := by
      have e := congrArg (fun l => l[0]?) gd
      simp only [List.getElem?_drop, Nat.add_zero] at e
      rw [e]; rfl
    have hdrop : L.drop (k + 1) = zipD xs1 ys1 := by
      rw [← List.drop_drop, gd]; rfl
    rw [atn hk]
    try simp only [DL.ap_dC, DL.ap_dVar, DL.ap_dNil, DL.ap_dCons, DL.ap_dTup, DL.ap_dLst, DL.ap_dOp, DL.ap_dB, DL.ap_dChain, DL.ap_dTru, DL.ap_dAndT, DL.ap_dOrT, DL.ap_dNotT, DL.ap_dAndV, DL.ap_dOrV, DL.ap_dNotV, DL.ap_dIf, DL.ap_dUn, DL.ap_dCall, DL.ap_dNoPart, DL.ap_dPart, DL.ap_dSl, DL.ap_dBM, DL.ap_dBM0, DL.ap_dFn, DL.ap_dLc, DL.ap_dYes, DL.ap_dRg1, DL.ap_dRg2, DL.ap_dLrg, DL.ap_dTrg, DL.ap_iAny, DL.ap_iRng1, DL.ap_iRng2, DL.ap_iRng3, DL.ap_rng1P, DL.ap_rng2P, DL.ap_rng3P, DL.ap_iZip, DL.ap_dLzip, DL.ap_dZ2, DL.ap_iEnm, DL.ap_a1, DL.ap_a2, DL.ap_sqT, DL.ap_sqR, DL.ap_dNext, DL.ap_dSeq, DL.ap_dBreak, DL.ap_dCont, DL.ap_dDrop, DL.ap_dRet, DL.ap_dRetN, DL.ap_dIfS, DL.ap_dAsg, DL.ap_dPar, DL.ap_a3, DL.ap_dPar3, DL.ap_dAug, DL.ap_dAugS, DL.ap_dFor, DL.ap_gSet, DL.ap_gTup, DL.ap_gNil, DL.ap_gCons, DL.ap_gSub, DL.tr_non, DL.tr_bl, DL.tr_int, DL.tr_str, DL.tr_tup, DL.tr_ref, DL.ad_int, DL.ad_tup, DL.ad_ref, DL.sb_int, DL.mu_int, DL.mu_tup, DL.mu_ref, DL.fd_int, DL.md_int, DL.pw_int, DL.ng_int, DL.i2_int, DL.ci_int, DL.is_bl, DL.is_nn, DL.is_in, DL.is_tn, DL.is_rn, DL.is_sn, DL.ix_tup, DL.ix_ref, DL.ixl_ref, DL.sl_tup, DL.sl_lw, DL.sl_ref, DL.st_ref, DL.ap_append, DL.ap_extend, DL.ap_popI, DL.ap_pop0, DL.ty_ref, DL.ln_tup, DL.ln_ref, DL.ab_int, DL.in_int, DL.in_bl, DL.mn_int, DL.mx_int, DL.sm_of, DL.al_ref, DL.an_ref, DL.li_of, DL.tu_of, DL.so_ref, DL.getV_0, DL.getV_s, DL.set_0, DL.set_s, DL.startD_nil, DL.startD_cons, DL.rep_0, DL.rep_s, DL.wipe_nil, DL.wipe_cons, DL.isB_bl, DL.isN_int, DL.someD_some, DL.at0, DL.at1, DL.at2, DL.at3, DL.at4, DL.at5, DL.up1_same, DL.up_up]
    refine ⟨rfl, ?_⟩
    unfold d__law_alike_5
    try simp only [DL.ap_dC, DL.ap_dVar, DL.ap_dNil, DL.ap_dCons, DL.ap_dTup, DL.ap_dLst, DL.ap_dOp, DL.ap_dB, DL.ap_dChain, DL.ap_dTru, DL.ap_dAndT, DL.ap_dOrT, DL.ap_dNotT, DL.ap_dAndV, DL.ap_dOrV, DL.ap_dNotV, DL.ap_dIf, DL.ap_dUn, DL.ap_dCall, DL.ap_dNoPart, DL.ap_dPart, DL.ap_dSl, DL.ap_dBM, DL.ap_dBM0, DL.ap_dFn, DL.ap_dLc, DL.ap_dYes, DL.ap_dRg1, DL.ap_dRg2, DL.ap_dLrg, DL.ap_dTrg, DL.ap_iAny, DL.ap_iRng1, DL.ap_iRng2, DL.ap_iRng3, DL.ap_rng1P, DL.ap_rng2P, DL.ap_rng3P, DL.ap_iZip, DL.ap_dLzip, DL.ap_dZ2, DL.ap_iEnm, DL.ap_a1, DL.ap_a2, DL.ap_sqT, DL.ap_sqR, DL.ap_dNext, DL.ap_dSeq, DL.ap_dBreak, DL.ap_dCont, DL.ap_dDrop, DL.ap_dRet, DL.ap_dRetN, DL.ap_dIfS, DL.ap_dAsg, DL.ap_dPar, DL.ap_a3, DL.ap_dPar3, DL.ap_dAug, DL.ap_dAugS, DL.ap_dFor, DL.ap_gSet, DL.ap_gTup, DL.ap_gNil, DL.ap_gCons, DL.ap_gSub, DL.tr_non, DL.tr_bl, DL.tr_int, DL.tr_str, DL.tr_tup, DL.tr_ref, DL.ad_int, DL.ad_tup, DL.ad_ref, DL.sb_int, DL.mu_int, DL.mu_tup, DL.mu_ref, DL.fd_int, DL.md_int, DL.pw_int, DL.ng_int, DL.i2_int, DL.ci_int, DL.is_bl, DL.is_nn, DL.is_in, DL.is_tn, DL.is_rn, DL.is_sn, DL.ix_tup, DL.ix_ref, DL.ixl_ref, DL.sl_tup, DL.sl_lw, DL.sl_ref, DL.st_ref, DL.ap_append, DL.ap_extend, DL.ap_popI, DL.ap_pop0, DL.ty_ref, DL.ln_tup, DL.ln_ref, DL.ab_int, DL.in_int, DL.in_bl, DL.mn_int, DL.mx_int, DL.sm_of, DL.al_ref, DL.an_ref, DL.li_of, DL.tu_of, DL.so_ref, DL.getV_0, DL.getV_s, DL.set_0, DL.set_s, DL.startD_nil, DL.startD_cons, DL.rep_0, DL.rep_s, DL.wipe_nil, DL.wipe_cons, DL.isB_bl, DL.isN_int, DL.someD_some, DL.at0, DL.at1, DL.at2, DL.at3, DL.at4, DL.at5, DL.up1_same, DL.up_up]
    unfold d__law_alike_4
    obtain ⟨kx, ky⟩ := sa_kn (hx.ext ge)
    obtain ⟨t1, t2, t3, t4⟩ := sa_ty hx
    try simp only [isi_bool kx, isi_bool ky, DL.ap_dC, DL.ap_dVar, DL.ap_dNil, DL.ap_dCons, DL.ap_dTup, DL.ap_dLst, DL.ap_dOp, DL.ap_dB, DL.ap_dChain, DL.ap_dTru, DL.ap_dAndT, DL.ap_dOrT, DL.ap_dNotT, DL.ap_dAndV, DL.ap_dOrV, DL.ap_dNotV, DL.ap_dIf, DL.ap_dUn, DL.ap_dCall, DL.ap_dNoPart, DL.ap_dPart, DL.ap_dSl, DL.ap_dBM, DL.ap_dBM0, DL.ap_dFn, DL.ap_dLc, DL.ap_dYes, DL.ap_dRg1, DL.ap_dRg2, DL.ap_dLrg, DL.ap_dTrg, DL.ap_iAny, DL.ap_iRng1, DL.ap_iRng2, DL.ap_iRng3, DL.ap_rng1P, DL.ap_rng2P, DL.ap_rng3P, DL.ap_iZip, DL.ap_dLzip, DL.ap_dZ2, DL.ap_iEnm, DL.ap_a1, DL.ap_a2, DL.ap_sqT, DL.ap_sqR, DL.ap_dNext, DL.ap_dSeq, DL.ap_dBreak, DL.ap_dCont, DL.ap_dDrop, DL.ap_dRet, DL.ap_dRetN, DL.ap_dIfS, DL.ap_dAsg, DL.ap_dPar, DL.ap_a3, DL.ap_dPar3, DL.ap_dAug, DL.ap_dAugS, DL.ap_dFor, DL.ap_gSet, DL.ap_gTup, DL.ap_gNil, DL.ap_gCons, DL.ap_gSub, DL.tr_non, DL.tr_bl, DL.tr_int, DL.tr_str, DL.tr_tup, DL.tr_ref, DL.ad_int, DL.ad_tup, DL.ad_ref, DL.sb_int, DL.mu_int, DL.mu_tup, DL.mu_ref, DL.fd_int, DL.md_int, DL.pw_int, DL.ng_int, DL.i2_int, DL.ci_int, DL.is_bl, DL.is_nn, DL.is_in, DL.is_tn, DL.is_rn, DL.is_sn, DL.ix_tup, DL.ix_ref, DL.ixl_ref, DL.sl_tup, DL.sl_lw, DL.sl_ref, DL.st_ref, DL.ap_append, DL.ap_extend, DL.ap_popI, DL.ap_pop0, DL.ty_ref, DL.ln_tup, DL.ln_ref, DL.ab_int, DL.in_int, DL.in_bl, DL.mn_int, DL.mx_int, DL.sm_of, DL.al_ref, DL.an_ref, DL.li_of, DL.tu_of, DL.so_ref, DL.getV_0, DL.getV_s, DL.set_0, DL.set_s, DL.startD_nil, DL.startD_cons, DL.rep_0, DL.rep_s, DL.wipe_nil, DL.wipe_cons, DL.isB_bl, DL.isN_int, DL.someD_some, DL.at0, DL.at1, DL.at2, DL.at3, DL.at4, DL.at5, DL.up1_same, DL.up_up]
    refine ne_bls ?_
    rw [decide_eq_true t1]
    try simp only [isi_str kx, isi_str ky, DL.ap_dC, DL.ap_dVar, DL.ap_dNil, DL.ap_dCons, DL.ap_dTup, DL.ap_dLst, DL.ap_dOp, DL.ap_dB, DL.ap_dChain, DL.ap_dTru, DL.ap_dAndT, DL.ap_dOrT, DL.ap_dNotT, DL.ap_dAndV, DL.ap_dOrV, DL.ap_dNotV, DL.ap_dIf, DL.ap_dUn, DL.ap_dCall, DL.ap_dNoPart, DL.ap_dPart, DL.ap_dSl, DL.ap_dBM, DL.ap_dBM0, DL.ap_dFn, DL.ap_dLc, DL.ap_dYes, DL.ap_dRg1, DL.ap_dRg2, DL.ap_dLrg, DL.ap_dTrg, DL.ap_iAny, DL.ap_iRng1, DL.ap_iRng2, DL.ap_iRng3, DL.ap_rng1P, DL.ap_rng2P, DL.ap_rng3P, DL.ap_iZip, DL.ap_dLzip, DL.ap_dZ2, DL.ap_iEnm, DL.ap_a1, DL.ap_a2, DL.ap_sqT, DL.ap_sqR, DL.ap_dNext, DL.ap_dSeq, DL.ap_dBreak, DL.ap_dCont, DL.ap_dDrop, DL.ap_dRet, DL.ap_dRetN, DL.ap_dIfS, DL.ap_dAsg, DL.ap_dPar, DL.ap_a3, DL.ap_dPar3, DL.ap_dAug, DL.ap_dAugS, DL.ap_dFor, DL.ap_gSet, DL.ap_gTup, DL.ap_gNil, DL.ap_gCons, DL.ap_gSub, DL.tr_non, DL.tr_bl, DL.tr_int, DL.tr_str, DL.tr_tup, DL.tr_ref, DL.ad_int, DL.ad_tup, DL.ad_ref, DL.sb_int, DL.mu_int, DL.mu_tup, DL.mu_ref, DL.fd_int, DL.md_int, DL.pw_int, DL.ng_int, DL.i2_int, DL.ci_int, DL.is_bl, DL.is_nn, DL.is_in, DL.is_tn, DL.is_rn, DL.is_sn, DL.ix_tup, DL.ix_ref, DL.ixl_ref, DL.sl_tup, DL.sl_lw, DL.sl_ref, DL.st_ref, DL.ap_append, DL.ap_extend, DL.ap_popI, DL.ap_pop0, DL.ty_ref, DL.ln_tup, DL.ln_ref, DL.ab_int, DL.in_int, DL.in_bl, DL.mn_int, DL.mx_int, DL.sm_of, DL.al_ref, DL.an_ref, DL.li_of, DL.tu_of, DL.so_ref, DL.getV_0, DL.getV_s, DL.set_0, DL.set_s, DL.startD_nil, DL.startD_cons, DL.rep_0, DL.rep_s, DL.wipe_nil, DL.wipe_cons, DL.isB_bl, DL.isN_int, DL.someD_some, DL.at0, DL.at1, DL.at2, DL.at3, DL.at4, DL.at5, DL.up1_same, DL.up_up]
    simp only [Bool.not_true, Bool.false_eq_true, if_false]
    refine ne_bls ?_
    rw [decide_eq_true t2]
    try simp only [DL.ap_dC, DL.ap_dVar, DL.ap_dNil, DL.ap_dCons, DL.ap_dTup, DL.ap_dLst, DL.ap_dOp, DL.ap_dB, DL.ap_dChain, DL.ap_dTru, DL.ap_dAndT, DL.ap_dOrT, DL.ap_dNotT, DL.ap_dAndV, DL.ap_dOrV, DL.ap_dNotV, DL.ap_dIf, DL.ap_dUn, DL.ap_dCall, DL.ap_dNoPart, DL.ap_dPart, DL.ap_dSl, DL.ap_dBM, DL.ap_dBM0, DL.ap_dFn, DL.ap_dLc, DL.ap_dYes, DL.ap_dRg1, DL.ap_dRg2, DL.ap_dLrg, DL.ap_dTrg, DL.ap_iAny, DL.ap_iRng1, DL.ap_iRng2, DL.ap_iRng3, DL.ap_rng1P, DL.ap_rng2P, DL.ap_rng3P, DL.ap_iZip, DL.ap_dLzip, DL.ap_dZ2, DL.ap_iEnm, DL.ap_a1, DL.ap_a2, DL.ap_sqT, DL.ap_sqR, DL.ap_dNext, DL.ap_dSeq, DL.ap_dBreak, DL.ap_dCont, DL.ap_dDrop, DL.ap_dRet, DL.ap_dRetN, DL.ap_dIfS, DL.ap_dAsg, DL.ap_dPar, DL.ap_a3, DL.ap_dPar3, DL.ap_dAug, DL.ap_dAugS, DL.ap_dFor, DL.ap_gSet, DL.ap_gTup, DL.ap_gNil, DL.ap_gCons, DL.ap_gSub, DL.tr_non, DL.tr_bl, DL.tr_int, DL.tr_str, DL.tr_tup, DL.tr_ref, DL.ad_int, DL.ad_tup, DL.ad_ref, DL.sb_int, DL.mu_int, DL.mu_tup, DL.mu_ref, DL.fd_int, DL.md_int, DL.pw_int, DL.ng_int, DL.i2_int, DL.ci_int, DL.is_bl, DL.is_nn, DL.is_in, DL.is_tn, DL.is_rn, DL.is_sn, DL.ix_tup, DL.ix_ref, DL.ixl_ref, DL.sl_tup, DL.sl_lw, DL.sl_ref, DL.st_ref, DL.ap_append, DL.ap_extend, DL.ap_popI, DL.ap_pop0, DL.ty_ref, DL.ln_tup, DL.ln_ref, DL.ab_int, DL.in_int, DL.in_bl, DL.mn_int, DL.mx_int, DL.sm_of, DL.al_ref, DL.an_ref, DL.li_of, DL.tu_of, DL.so_ref, DL.getV_0, DL.getV_s, DL.set_0, DL.set_s, DL.startD_nil, DL.startD_cons, DL.rep_0, DL.rep_s, DL.wipe_nil, DL.wipe_cons, DL.isB_bl, DL.isN_int, DL.someD_some, DL.at0, DL.at1, DL.at2, DL.at3, DL.at4, DL.at5, DL.up1_same, DL.up_up]
    simp only [Bool.not_true, Bool.false_eq_true, if_false]
    unfold d__law_alike_3
    try simp only [DL.ap_dC, DL.ap_dVar, DL.ap_dNil, DL.ap_dCons, DL.ap_dTup, DL.ap_dLst, DL.ap_dOp, DL.ap_dB, DL.ap_dChain, DL.ap_dTru, DL.ap_dAndT, DL.ap_dOrT, DL.ap_dNotT, DL.ap_dAndV, DL.ap_dOrV, DL.ap_dNotV, DL.ap_dIf, DL.ap_dUn, DL.ap_dCall, DL.ap_dNoPart, DL.ap_dPart, DL.ap_dSl, DL.ap_dBM, DL.ap_dBM0, DL.ap_dFn, DL.ap_dLc, DL.ap_dYes, DL.ap_dRg1, DL.ap_dRg2, DL.ap_dLrg, DL.ap_dTrg, DL.ap_iAny, DL.ap_iRng1, DL.ap_iRng2, DL.ap_iRng3, DL.ap_rng1P, DL.ap_rng2P, DL.ap_rng3P, DL.ap_iZip, DL.ap_dLzip, DL.ap_dZ2, DL.ap_iEnm, DL.ap_a1, DL.ap_a2, DL.ap_sqT, DL.ap_sqR, DL.ap_dNext, DL.ap_dSeq, DL.ap_dBreak, DL.ap_dCont, DL.ap_dDrop, DL.ap_dRet, DL.ap_dRetN, DL.ap_dIfS, DL.ap_dAsg, DL.ap_dPar, DL.ap_a3, DL.ap_dPar3, DL.ap_dAug, DL.ap_dAugS, DL.ap_dFor, DL.ap_gSet, DL.ap_gTup, DL.ap_gNil, DL.ap_gCons, DL.ap_gSub, DL.tr_non, DL.tr_bl, DL.tr_int, DL.tr_str, DL.tr_tup, DL.tr_ref, DL.ad_int, DL.ad_tup, DL.ad_ref, DL.sb_int, DL.mu_int, DL.mu_tup, DL.mu_ref, DL.fd_int, DL.md_int, DL.pw_int, DL.ng_int, DL.i2_int, DL.ci_int, DL.is_bl, DL.is_nn, DL.is_in, DL.is_tn, DL.is_rn, DL.is_sn, DL.ix_tup, DL.ix_ref, DL.ixl_ref, DL.sl_tup, DL.sl_lw, DL.sl_ref, DL.st_ref, DL.ap_append, DL.ap_extend, DL.ap_popI, DL.ap_pop0, DL.ty_ref, DL.ln_tup, DL.ln_ref, DL.ab_int, DL.in_int, DL.in_bl, DL.mn_int, DL.mx_int, DL.sm_of, DL.al_ref, DL.an_ref, DL.li_of, DL.tu_of, DL.so_ref, DL.getV_0, DL.getV_s, DL.set_0, DL.set_s, DL.startD_nil, DL.startD_cons, DL.rep_0, DL.rep_s, DL.wipe_nil, DL.wipe_cons, DL.isB_bl, DL.isN_int, DL.someD_some, DL.at0, DL.at1, DL.at2, DL.at3, DL.at4, DL.at5, DL.up1_same, DL.up_up]
    refine ⟨line (show 2 ≤ 1000000 by decide), ?_⟩
    rw [isi_tl kx]
    refine ⟨line (show 2 ≤ 1000000 by decide), ?_⟩
    rw [isi_tl ky]
    refine ne_bls ?_
    rw [decide_eq_true t3]
    try simp only [DL.ap_dC, DL.ap_dVar, DL.ap_dNil, DL.ap_dCons, DL.ap_dTup, DL.ap_dLst, DL.ap_dOp, DL.ap_dB, DL.ap_dChain, DL.ap_dTru, DL.ap_dAndT, DL.ap_dOrT, DL.ap_dNotT, DL.ap_dAndV, DL.ap_dOrV, DL.ap_dNotV, DL.ap_dIf, DL.ap_dUn, DL.ap_dCall, DL.ap_dNoPart, DL.ap_dPart, DL.ap_dSl, DL.ap_dBM, DL.ap_dBM0, DL.ap_dFn, DL.ap_dLc, DL.ap_dYes, DL.ap_dRg1, DL.ap_dRg2, DL.ap_dLrg, DL.ap_dTrg, DL.ap_iAny, DL.ap_iRng1, DL.ap_iRng2, DL.ap_iRng3, DL.ap_rng1P, DL.ap_rng2P, DL.ap_rng3P, DL.ap_iZip, DL.ap_dLzip, DL.ap_dZ2, DL.ap_iEnm, DL.ap_a1, DL.ap_a2, DL.ap_sqT, DL.ap_sqR, DL.ap_dNext, DL.ap_dSeq, DL.ap_dBreak, DL.ap_dCont, DL.ap_dDrop, DL.ap_dRet, DL.ap_dRetN, DL.ap_dIfS, DL.ap_dAsg, DL.ap_dPar, DL.ap_a3, DL.ap_dPar3, DL.ap_dAug, DL.ap_dAugS, DL.ap_dFor, DL.ap_gSet, DL.ap_gTup, DL.ap_gNil, DL.ap_gCons, DL.ap_gSub, DL.tr_non, DL.tr_bl, DL.tr_int, DL.tr_str, DL.tr_tup, DL.tr_ref, DL.ad_int, DL.ad_tup, DL.ad_ref, DL.sb_int, DL.mu_int, DL.mu_tup, DL.mu_ref, DL.fd_int, DL.md_int, DL.pw_int, DL.ng_int, DL.i2_int, DL.ci_int, DL.is_bl, DL.is_nn, DL.is_in, DL.is_tn, DL.is_rn, DL.is_sn, DL.ix_tup, DL.ix_ref, DL.ixl_ref, DL.sl_tup, DL.sl_lw, DL.sl_ref, DL.st_ref, DL.ap_append, DL.ap_extend, DL.ap_popI, DL.ap_pop0, DL.ty_ref, DL.ln_tup, DL.ln_ref, DL.ab_int, DL.in_int, DL.in_bl, DL.mn_int, DL.mx_int, DL.sm_of, DL.al_ref, DL.an_ref, DL.li_of, DL.tu_of, DL.so_ref, DL.getV_0, DL.getV_s, DL.set_0, DL.set_s, DL.startD_nil, DL.startD_cons, DL.rep_0, DL.rep_s, DL.wipe_nil, DL.wipe_cons, DL.isB_bl, DL.isN_int, DL.someD_some, DL.at0, DL.at1, DL.at2, DL.at3, DL.at4, DL.at5, DL.up1_same, DL.up_up]
    simp only [Bool.not_true, Bool.false_eq_true, if_false]
    unfold d__law_alike_2
    try simp only [DL.ap_dC, DL.ap_dVar, DL.ap_dNil, DL.ap_dCons, DL.ap_dTup, DL.ap_dLst, DL.ap_dOp, DL.ap_dB, DL.ap_dChain, DL.ap_dTru, DL.ap_dAndT, DL.ap_dOrT, DL.ap_dNotT, DL.ap_dAndV, DL.ap_dOrV, DL.ap_dNotV, DL.ap_dIf, DL.ap_dUn, DL.ap_dCall, DL.ap_dNoPart, DL.ap_dPart, DL.ap_dSl, DL.ap_dBM, DL.ap_dBM0, DL.ap_dFn, DL.ap_dLc, DL.ap_dYes, DL.ap_dRg1, DL.ap_dRg2, DL.ap_dLrg, DL.ap_dTrg, DL.ap_iAny, DL.ap_iRng1, DL.ap_iRng2, DL.ap_iRng3, DL.ap_rng1P, DL.ap_rng2P, DL.ap_rng3P, DL.ap_iZip, DL.ap_dLzip, DL.ap_dZ2, DL.ap_iEnm, DL.ap_a1, DL.ap_a2, DL.ap_sqT, DL.ap_sqR, DL.ap_dNext, DL.ap_dSeq, DL.ap_dBreak, DL.ap_dCont, DL.ap_dDrop, DL.ap_dRet, DL.ap_dRetN, DL.ap_dIfS, DL.ap_dAsg, DL.ap_dPar, DL.ap_a3, DL.ap_dPar3, DL.ap_dAug, DL.ap_dAugS, DL.ap_dFor, DL.ap_gSet, DL.ap_gTup, DL.ap_gNil, DL.ap_gCons, DL.ap_gSub, DL.tr_non, DL.tr_bl, DL.tr_int, DL.tr_str, DL.tr_tup, DL.tr_ref, DL.ad_int, DL.ad_tup, DL.ad_ref, DL.sb_int, DL.mu_int, DL.mu_tup, DL.mu_ref, DL.fd_int, DL.md_int, DL.pw_int, DL.ng_int, DL.i2_int, DL.ci_int, DL.is_bl, DL.is_nn, DL.is_in, DL.is_tn, DL.is_rn, DL.is_sn, DL.ix_tup, DL.ix_ref, DL.ixl_ref, DL.sl_tup, DL.sl_lw, DL.sl_ref, DL.st_ref, DL.ap_append, DL.ap_extend, DL.ap_popI, DL.ap_pop0, DL.ty_ref, DL.ln_tup, DL.ln_ref, DL.ab_int, DL.in_int, DL.in_bl, DL.mn_int, DL.mx_int, DL.sm_of, DL.al_ref, DL.an_ref, DL.li_of, DL.tu_of, DL.so_ref, DL.getV_0, DL.getV_s, DL.set_0, DL.set_s, DL.startD_nil, DL.startD_cons, DL.rep_0, DL.rep_s, DL.wipe_nil, DL.wipe_cons, DL.isB_bl, DL.isN_int, DL.someD_some, DL.at0, DL.at1, DL.at2, DL.at3, DL.at4, DL.at5, DL.up1_same, DL.up_up]
    refine ⟨line (show 2 ≤ 1000000 by decide), ?_⟩
    rw [isi_tl kx]
    try simp only [DL.ap_dC, DL.ap_dVar, DL.ap_dNil, DL.ap_dCons, DL.ap_dTup, DL.ap_dLst, DL.ap_dOp, DL.ap_dB, DL.ap_dChain, DL.ap_dTru, DL.ap_dAndT, DL.ap_dOrT, DL.ap_dNotT, DL.ap_dAndV, DL.ap_dOrV, DL.ap_dNotV, DL.ap_dIf, DL.ap_dUn, DL.ap_dCall, DL.ap_dNoPart, DL.ap_dPart, DL.ap_dSl, DL.ap_dBM, DL.ap_dBM0, DL.ap_dFn, DL.ap_dLc, DL.ap_dYes, DL.ap_dRg1, DL.ap_dRg2, DL.ap_dLrg, DL.ap_dTrg, DL.ap_iAny, DL.ap_iRng1, DL.ap_iRng2, DL.ap_iRng3, DL.ap_rng1P, DL.ap_rng2P, DL.ap_rng3P, DL.ap_iZip, DL.ap_dLzip, DL.ap_dZ2, DL.ap_iEnm, DL.ap_a1, DL.ap_a2, DL.ap_sqT, DL.ap_sqR, DL.ap_dNext, DL.ap_dSeq, DL.ap_dBreak, DL.ap_dCont, DL.ap_dDrop, DL.ap_dRet, DL.ap_dRetN, DL.ap_dIfS, DL.ap_dAsg, DL.ap_dPar, DL.ap_a3, DL.ap_dPar3, DL.ap_dAug, DL.ap_dAugS, DL.ap_dFor, DL.ap_gSet, DL.ap_gTup, DL.ap_gNil, DL.ap_gCons, DL.ap_gSub, DL.tr_non, DL.tr_bl, DL.tr_int, DL.tr_str, DL.tr_tup, DL.tr_ref, DL.ad_int, DL.ad_tup, DL.ad_ref, DL.sb_int, DL.mu_int, DL.mu_tup, DL.mu_ref, DL.fd_int, DL.md_int, DL.pw_int, DL.ng_int, DL.i2_int, DL.ci_int, DL.is_bl, DL.is_nn, DL.is_in, DL.is_tn, DL.is_rn, DL.is_sn, DL.ix_tup, DL.ix_ref, DL.ixl_ref, DL.sl_tup, DL.sl_lw, DL.sl_ref, DL.st_ref, DL.ap_append, DL.ap_extend, DL.ap_popI, DL.ap_pop0, DL.ty_ref, DL.ln_tup, DL.ln_ref, DL.ab_int, DL.in_int, DL.in_bl, DL.mn_int, DL.mx_int, DL.sm_of, DL.al_ref, DL.an_ref, DL.li_of, DL.tu_of, DL.so_ref, DL.getV_0, DL.getV_s, DL.set_0, DL.set_s, DL.startD_nil, DL.startD_cons, DL.rep_0, DL.rep_s, DL.wipe_nil, DL.wipe_cons, DL.isB_bl, DL.isN_int, DL.someD_some, DL.at0, DL.at1, DL.at2, DL.at3, DL.at4, DL.at5, DL.up1_same, DL.up_up]
    have c1 : ((k : Nat) : Int) + 1 = ((k + 1 : Nat) : Int) := by omega
    rw [c1]
    have pos := hx.pos
    -- the end of a turn at a leaf
    have leaf : ∃ m', m' < n1 + m1 ∧ ∃ (L' : List D) (k' : Nat) (xs ys : List D) (o4 o5 : Option D), [some x, some y, some (D.ref p), some (D.int ((k + 1 : Nat) : Int)), some x1, some y1] = [some x, some y, some (.ref p), some (.int (k' : Nat)), o4, o5] ∧ S2 p = some (.lst L') ∧ L'.drop k' = zipD xs ys ∧ k' + xs.length = L'.length ∧ SaL S m' xs ys ∧ k' + m' ≤ n ∧ Ext S S2 :=
      ⟨m1, by omega, L, k + 1, xs1, ys1, _, _, rfl, g1, hdrop, by omega, ht, by omega, ge⟩
    -- .. at a tuple, a list
    have node : ∀ (us vs : List D) (n0 : Nat), SaL S n0 us vs → n0 + 1 = n1 → (∀ (Q' : Sto → Prop), (∀ S3, S3 p = some (.lst (L ++ zipD us vs)) → Ext S S3 → Q' S3) →
        d__law_alike_1 EP { nx := fun ρ' S' => Q' S', rt := Q } [some x, some y, some (D.ref p), some (D.int ((k + 1 : Nat) : Int)), some x1, some y1] S2) → True := fun _ _ _ _ _ _ => trivial
    cases hx with
    | non =>
      simp only [isT, isL, Bool.or_self, Bool.false_eq_true, if_false]
      refine ne_DD rfl rfl ?_
      try simp only [DL.ap_dC, DL.ap_dVar, DL.ap_dNil, DL.ap_dCons, DL.ap_dTup, DL.ap_dLst, DL.ap_dOp, DL.ap_dB, DL.ap_dChain, DL.ap_dTru, DL.ap_dAndT, DL.ap_dOrT, DL.ap_dNotT, DL.ap_dAndV, DL.ap_dOrV, DL.ap_dNotV, DL.ap_dIf, DL.ap_dUn, DL.ap_dCall, DL.ap_dNoPart, DL.ap_dPart, DL.ap_dSl, DL.ap_dBM, DL.ap_dBM0, DL.ap_dFn, DL.ap_dLc, DL.ap_dYes, DL.ap_dRg1, DL.ap_dRg2, DL.ap_dLrg, DL.ap_dTrg, DL.ap_iAny, DL.ap_iRng1, DL.ap_iRng2, DL.ap_iRng3, DL.ap_rng1P, DL.ap_rng2P, DL.ap_rng3P, DL.ap_iZip, DL.ap_dLzip, DL.ap_dZ2, DL.ap_iEnm, DL.ap_a1, DL.ap_a2, DL.ap_sqT, DL.ap_sqR, DL.ap_dNext, DL.ap_dSeq, DL.ap_dBreak, DL.ap_dCont, DL.ap_dDrop, DL.ap_dRet, DL.ap_dRetN, DL.ap_dIfS, DL.ap_dAsg, DL.ap_dPar, DL.ap_a3, DL.ap_dPar3, DL.ap_dAug, DL.ap_dAugS, DL.ap_dFor, DL.ap_gSet, DL.ap_gTup, DL.ap_gNil, DL.ap_gCons, DL.ap_gSub, DL.tr_non, DL.tr_bl, DL.tr_int, DL.tr_str, DL.tr_tup, DL.tr_ref, DL.ad_int, DL.ad_tup, DL.ad_ref, DL.sb_int, DL.mu_int, DL.mu_tup, DL.mu_ref, DL.fd_int, DL.md_int, DL.pw_int, DL.ng_int, DL.i2_int, DL.ci_int, DL.is_bl, DL.is_nn, DL.is_in, DL.is_tn, DL.is_rn, DL.is_sn, DL.ix_tup, DL.ix_ref, DL.ixl_ref, DL.sl_tup, DL.sl_lw, DL.sl_ref, DL.st_ref, DL.ap_append, DL.ap_extend, DL.ap_popI, DL.ap_pop0, DL.ty_ref, DL.ln_tup, DL.ln_ref, DL.ab_int, DL.in_int, DL.in_bl, DL.mn_int, DL.mx_int, DL.sm_of, DL.al_ref, DL.an_ref, DL.li_of, DL.tu_of, DL.so_ref, DL.getV_0, DL.getV_s, DL.set_0, DL.set_s, DL.startD_nil, DL.startD_cons, DL.rep_0, DL.rep_s, DL.wipe_nil, DL.wipe_cons, DL.isB_bl, DL.isN_int, DL.someD_some, DL.at0, DL.at1, DL.at2, DL.at3, DL.at4, DL.at5, DL.up1_same, DL.up_up]
      exact leaf
    | bl b =>
      simp only [isT, isL, Bool.or_self, Bool.false_eq_true, if_false]
      refine ne_bls ?_
      rw [decide_eq_true rfl]
      try simp only [DL.ap_dC, DL.ap_dVar, DL.ap_dNil, DL.ap_dCons, DL.ap_dTup, DL.ap_dLst, DL.ap_dOp, DL.ap_dB, DL.ap_dChain, DL.ap_dTru, DL.ap_dAndT, DL.ap_dOrT, DL.ap_dNotT, DL.ap_dAndV, DL.ap_dOrV, DL.ap_dNotV, DL.ap_dIf, DL.ap_dUn, DL.ap_dCall, DL.ap_dNoPart, DL.ap_dPart, DL.ap_dSl, DL.ap_dBM, DL.ap_dBM0, DL.ap_dFn, DL.ap_dLc, DL.ap_dYes, DL.ap_dRg1, DL.ap_dRg2, DL.ap_dLrg, DL.ap_dTrg, DL.ap_iAny, DL.ap_iRng1, DL.ap_iRng2, DL.ap_iRng3, DL.ap_rng1P, DL.ap_rng2P, DL.ap_rng3P, DL.ap_iZip, DL.ap_dLzip, DL.ap_dZ2, DL.ap_iEnm, DL.ap_a1, DL.ap_a2, DL.ap_sqT, DL.ap_sqR, DL.ap_dNext, DL.ap_dSeq, DL.ap_dBreak, DL.ap_dCont, DL.ap_dDrop, DL.ap_dRet, DL.ap_dRetN, DL.ap_dIfS, DL.ap_dAsg, DL.ap_dPar, DL.ap_a3, DL.ap_dPar3, DL.ap_dAug, DL.ap_dAugS, DL.ap_dFor, DL.ap_gSet, DL.ap_gTup, DL.ap_gNil, DL.ap_gCons, DL.ap_gSub, DL.tr_non, DL.tr_bl, DL.tr_int, DL.tr_str, DL.tr_tup, DL.tr_ref, DL.ad_int, DL.ad_tup, DL.ad_ref, DL.sb_int, DL.mu_int, DL.mu_tup, DL.mu_ref, DL.fd_int, DL.md_int, DL.pw_int, DL.ng_int, DL.i2_int, DL.ci_int, DL.is_bl, DL.is_nn, DL.is_in, DL.is_tn, DL.is_rn, DL.is_sn, DL.ix_tup, DL.ix_ref, DL.ixl_ref, DL.sl_tup, DL.sl_lw, DL.sl_ref, DL.st_ref, DL.ap_append, DL.ap_extend, DL.ap_popI, DL.ap_pop0, DL.ty_ref, DL.ln_tup, DL.ln_ref, DL.ab_int, DL.in_int, DL.in_bl, DL.mn_int, DL.mx_int, DL.sm_of, DL.al_ref, DL.an_ref, DL.li_of, DL.tu_of, DL.so_ref, DL.getV_0, DL.getV_s, DL.set_0, DL.set_s, DL.startD_nil, DL.startD_cons, DL.rep_0, DL.rep_s, DL.wipe_nil, DL.wipe_cons, DL.isB_bl, DL.isN_int, DL.someD_some, DL.at0, DL.at1, DL.at2, DL.at3, DL.at4, DL.at5, DL.up1_same, DL.up_up]
      exact leaf
    | int i =>
      simp only [isT, isL, Bool.or_self, Bool.false_eq_true, if_false]
      refine ne_ints ?_
      rw [decide_eq_true rfl]
      try simp only [DL.ap_dC, DL.ap_dVar, DL.ap_dNil, DL.ap_dCons, DL.ap_dTup, DL.ap_dLst, DL.ap_dOp, DL.ap_dB, DL.ap_dChain, DL.ap_dTru, DL.ap_dAndT, DL.ap_dOrT, DL.ap_dNotT, DL.ap_dAndV, DL.ap_dOrV, DL.ap_dNotV, DL.ap_dIf, DL.ap_dUn, DL.ap_dCall, DL.ap_dNoPart, DL.ap_dPart, DL.ap_dSl, DL.ap_dBM, DL.ap_dBM0, DL.ap_dFn, DL.ap_dLc, DL.ap_dYes, DL.ap_dRg1, DL.ap_dRg2, DL.ap_dLrg, DL.ap_dTrg, DL.ap_iAny, DL.ap_iRng1, DL.ap_iRng2, DL.ap_iRng3, DL.ap_rng1P, DL.ap_rng2P, DL.ap_rng3P, DL.ap_iZip, DL.ap_dLzip, DL.ap_dZ2, DL.ap_iEnm, DL.ap_a1, DL.ap_a2, DL.ap_sqT, DL.ap_sqR, DL.ap_dNext, DL.ap_dSeq, DL.ap_dBreak, DL.ap_dCont, DL.ap_dDrop, DL.ap_dRet, DL.ap_dRetN, DL.ap_dIfS, DL.ap_dAsg, DL.ap_dPar, DL.ap_a3, DL.ap_dPar3, DL.ap_dAug, DL.ap_dAugS, DL.ap_dFor, DL.ap_gSet, DL.ap_gTup, DL.ap_gNil, DL.ap_gCons, DL.ap_gSub, DL.tr_non, DL.tr_bl, DL.tr_int, DL.tr_str, DL.tr_tup, DL.tr_ref, DL.ad_int, DL.ad_tup, DL.ad_ref, DL.sb_int, DL.mu_int, DL.mu_tup, DL.mu_ref, DL.fd_int, DL.md_int, DL.pw_int, DL.ng_int, DL.i2_int, DL.ci_int, DL.is_bl, DL.is_nn, DL.is_in, DL.is_tn, DL.is_rn, DL.is_sn, DL.ix_tup, DL.ix_ref, DL.ixl_ref, DL.sl_tup, DL.sl_lw, DL.sl_ref, DL.st_ref, DL.ap_append, DL.ap_extend, DL.ap_popI, DL.ap_pop0, DL.ty_ref, DL.ln_tup, DL.ln_ref, DL.ab_int, DL.in_int, DL.in_bl, DL.mn_int, DL.mx_int, DL.sm_of, DL.al_ref, DL.an_ref, DL.li_of, DL.tu_of, DL.so_ref, DL.getV_0, DL.getV_s, DL.set_0, DL.set_s, DL.startD_nil, DL.startD_cons, DL.rep_0, DL.rep_s, DL.wipe_nil, DL.wipe_cons, DL.isB_bl, DL.isN_int, DL.someD_some, DL.at0, DL.at1, DL.at2, DL.at3, DL.at4, DL.at5, DL.up1_same, DL.up_up]
      exact leaf
    | str z =>
      simp only [isT, isL, Bool.or_self, Bool.false_eq_true, if_false]
      refine ne_strs ?_
      rw [decide_eq_true rfl]
      try simp only [DL.ap_dC, DL.ap_dVar, DL.ap_dNil, DL.ap_dCons, DL.ap_dTup, DL.ap_dLst, DL.ap_dOp, DL.ap_dB, DL.ap_dChain, DL.ap_dTru, DL.ap_dAndT, DL.ap_dOrT, DL.ap_dNotT, DL.ap_dAndV, DL.ap_dOrV, DL.ap_dNotV, DL.ap_dIf, DL.ap_dUn, DL.ap_dCall, DL.ap_dNoPart, DL.ap_dPart, DL.ap_dSl, DL.ap_dBM, DL.ap_dBM0, DL.ap_dFn, DL.ap_dLc, DL.ap_dYes, DL.ap_dRg1, DL.ap_dRg2, DL.ap_dLrg, DL.ap_dTrg, DL.ap_iAny, DL.ap_iRng1, DL.ap_iRng2, DL.ap_iRng3, DL.ap_rng1P, DL.ap_rng2P, DL.ap_rng3P, DL.ap_iZip, DL.ap_dLzip, DL.ap_dZ2, DL.ap_iEnm, DL.ap_a1, DL.ap_a2, DL.ap_sqT, DL.ap_sqR, DL.ap_dNext, DL.ap_dSeq, DL.ap_dBreak, DL.ap_dCont, DL.ap_dDrop, DL.ap_dRet, DL.ap_dRetN, DL.ap_dIfS, DL.ap_dAsg, DL.ap_dPar, DL.ap_a3, DL.ap_dPar3, DL.ap_dAug, DL.ap_dAugS, DL.ap_dFor, DL.ap_gSet, DL.ap_gTup, DL.ap_gNil, DL.ap_gCons, DL.ap_gSub, DL.tr_non, DL.tr_bl, DL.tr_int, DL.tr_str, DL.tr_tup, DL.tr_ref, DL.ad_int, DL.ad_tup, DL.ad_ref, DL.sb_int, DL.mu_int, DL.mu_tup, DL.mu_ref, DL.fd_int, DL.md_int, DL.pw_int, DL.ng_int, DL.i2_int, DL.ci_int, DL.is_bl, DL.is_nn, DL.is_in, DL.is_tn, DL.is_rn, DL.is_sn, DL.ix_tup, DL.ix_ref, DL.ixl_ref, DL.sl_tup, DL.sl_lw, DL.sl_ref, DL.st_ref, DL.ap_append, DL.ap_extend, DL.ap_popI, DL.ap_pop0, DL.ty_ref, DL.ln_tup, DL.ln_ref, DL.ab_int, DL.in_int, DL.in_bl, DL.mn_int, DL.mx_int, DL.sm_of, DL.al_ref, DL.an_ref, DL.li_of, DL.tu_of, DL.so_ref, DL.getV_0, DL.getV_s, DL.set_0, DL.set_s, DL.startD_nil, DL.startD_cons, DL.rep_0, DL.rep_s, DL.wipe_nil, DL.wipe_cons, DL.isB_bl, DL.isN_int, DL.someD_some, DL.at0, DL.at1, DL.at2, DL.at3, DL.at4, DL.at5, DL.up1_same, DL.up_up]
      exact leaf
    | @tup n0 us vs hu =>
      simp only [isT, isL, Bool.true_or, if_true]
      have hul := hu.len
      rw [isi_tuple kx, isi_tuple ky]
      refine ne_bls ?_
      simp only [isT, decide_true, Bool.not_true, Bool.false_eq_true, if_false]
      try simp only [DL.ap_dC, DL.ap_dVar, DL.ap_dNil, DL.ap_dCons, DL.ap_dTup, DL.ap_dLst, DL.ap_dOp, DL.ap_dB, DL.ap_dChain, DL.ap_dTru, DL.ap_dAndT, DL.ap_dOrT, DL.ap_dNotT, DL.ap_dAndV, DL.ap_dOrV, DL.ap_dNotV, DL.ap_dIf, DL.ap_dUn, DL.ap_dCall, DL.ap_dNoPart, DL.ap_dPart, DL.ap_dSl, DL.ap_dBM, DL.ap_dBM0, DL.ap_dFn, DL.ap_dLc, DL.ap_dYes, DL.ap_dRg1, DL.ap_dRg2, DL.ap_dLrg, DL.ap_dTrg, DL.ap_iAny, DL.ap_iRng1, DL.ap_iRng2, DL.ap_iRng3, DL.ap_rng1P, DL.ap_rng2P, DL.ap_rng3P, DL.ap_iZip, DL.ap_dLzip, DL.ap_dZ2, DL.ap_iEnm, DL.ap_a1, DL.ap_a2, DL.ap_sqT, DL.ap_sqR, DL.ap_dNext, DL.ap_dSeq, DL.ap_dBreak, DL.ap_dCont, DL.ap_dDrop, DL.ap_dRet, DL.ap_dRetN, DL.ap_dIfS, DL.ap_dAsg, DL.ap_dPar, DL.ap_a3, DL.ap_dPar3, DL.ap_dAug, DL.ap_dAugS, DL.ap_dFor, DL.ap_gSet, DL.ap_gTup, DL.ap_gNil, DL.ap_gCons, DL.ap_gSub, DL.tr_non, DL.tr_bl, DL.tr_int, DL.tr_str, DL.tr_tup, DL.tr_ref, DL.ad_int, DL.ad_tup, DL.ad_ref, DL.sb_int, DL.mu_int, DL.mu_tup, DL.mu_ref, DL.fd_int, DL.md_int, DL.pw_int, DL.ng_int, DL.i2_int, DL.ci_int, DL.is_bl, DL.is_nn, DL.is_in, DL.is_tn, DL.is_rn, DL.is_sn, DL.ix_tup, DL.ix_ref, DL.ixl_ref, DL.sl_tup, DL.sl_lw, DL.sl_ref, DL.st_ref, DL.ap_append, DL.ap_extend, DL.ap_popI, DL.ap_pop0, DL.ty_ref, DL.ln_tup, DL.ln_ref, DL.ab_int, DL.in_int, DL.in_bl, DL.mn_int, DL.mx_int, DL.sm_of, DL.al_ref, DL.an_ref, DL.li_of, DL.tu_of, DL.so_ref, DL.getV_0, DL.getV_s, DL.set_0, DL.set_s, DL.startD_nil, DL.startD_cons, DL.rep_0, DL.rep_s, DL.wipe_nil, DL.wipe_cons, DL.isB_bl, DL.isN_int, DL.someD_some, DL.at0, DL.at1, DL.at2, DL.at3, DL.at4, DL.at5, DL.up1_same, DL.up_up]
      try simp only [Bool.false_eq_true, if_false]
      refine ne_ints ?_
      rw [hul.1, decide_eq_true rfl]
      simp only [Bool.not_true, Bool.false_eq_true, if_false]
      unfold d__law_alike_1
      try simp only [DL.ap_dC, DL.ap_dVar, DL.ap_dNil, DL.ap_dCons, DL.ap_dTup, DL.ap_dLst, DL.ap_dOp, DL.ap_dB, DL.ap_dChain, DL.ap_dTru, DL.ap_dAndT, DL.ap_dOrT, DL.ap_dNotT, DL.ap_dAndV, DL.ap_dOrV, DL.ap_dNotV, DL.ap_dIf, DL.ap_dUn, DL.ap_dCall, DL.ap_dNoPart, DL.ap_dPart, DL.ap_dSl, DL.ap_dBM, DL.ap_dBM0, DL.ap_dFn, DL.ap_dLc, DL.ap_dYes, DL.ap_dRg1, DL.ap_dRg2, DL.ap_dLrg, DL.ap_dTrg, DL.ap_iAny, DL.ap_iRng1, DL.ap_iRng2, DL.ap_iRng3, DL.ap_rng1P, DL.ap_rng2P, DL.ap_rng3P, DL.ap_iZip, DL.ap_dLzip, DL.ap_dZ2, DL.ap_iEnm, DL.ap_a1, DL.ap_a2, DL.ap_sqT, DL.ap_sqR, DL.ap_dNext, DL.ap_dSeq, DL.ap_dBreak, DL.ap_dCont, DL.ap_dDrop, DL.ap_dRet, DL.ap_dRetN, DL.ap_dIfS, DL.ap_dAsg, DL.ap_dPar, DL.ap_a3, DL.ap_dPar3, DL.ap_dAug, DL.ap_dAugS, DL.ap_dFor, DL.ap_gSet, DL.ap_gTup, DL.ap_gNil, DL.ap_gCons, DL.ap_gSub, DL.tr_non, DL.tr_bl, DL.tr_int, DL.tr_str, DL.tr_tup, DL.tr_ref, DL.ad_int, DL.ad_tup, DL.ad_ref, DL.sb_int, DL.mu_int, DL.mu_tup, DL.mu_ref, DL.fd_int, DL.md_int, DL.pw_int, DL.ng_int, DL.i2_int, DL.ci_int, DL.is_bl, DL.is_nn, DL.is_in, DL.is_tn, DL.is_rn, DL.is_sn, DL.ix_tup, DL.ix_ref, DL.ixl_ref, DL.sl_tup, DL.sl_lw, DL.sl_ref, DL.st_ref, DL.ap_append, DL.ap_extend, DL.ap_popI, DL.ap_pop0, DL.ty_ref, DL.ln_tup, DL.ln_ref, DL.ab_int, DL.in_int, DL.in_bl, DL.mn_int, DL.mx_int, DL.sm_of, DL.al_ref, DL.an_ref, DL.li_of, DL.tu_of, DL.so_ref, DL.getV_0, DL.getV_s, DL.set_0, DL.set_s, DL.startD_nil, DL.startD_cons, DL.rep_0, DL.rep_s, DL.wipe_nil, DL.wipe_cons, DL.isB_bl, DL.isN_int, DL.someD_some, DL.at0, DL.at1, DL.at2, DL.at3, DL.at4, DL.at5, DL.up1_same, DL.up_up]
      refine ⟨lstAt_of g1 trivial, ?_⟩
      (intro q n3; generalize eS_ : up1 _ q _ = S3; have e3 := Ext.new_eq eS_ n3; have f3 := up_eq eS_; clear eS_)
      refine lstAt_of (e3 _ _ g1) (lstAt_of f3 ⟨?_, ?_⟩)
      · rw [zipD_length]; exact line (by omega)
      · refine ⟨m1 + n0, by omega, L ++ zipD us vs, k + 1, xs1 ++ us, ys1 ++ vs, _, _, (by first | exact rfl | trivial), (by first | exact rfl | exact up1_same), ?_, ?_, ht.app hu, by omega, ?_⟩
        · rw [List.drop_append_of_le_length (by omega), hdrop, zipD_app hl2.1]
        · rw [List.length_append, List.length_append, zipD_length]; omega
        · exact fun b cc hb => by
            have nb : b ≠ p := ne_new hb n1
            rw [up1_ne nb]
            exact e3 _ _ (ge _ _ hb)
    | @lst n0 a b us vs ha hb hu =>
      simp only [isT, isL, Bool.or_true, if_true]
      have hul := hu.len
      rw [isi_tuple kx, isi_tuple ky]
      refine ne_bls ?_
      simp only [isT, decide_true, Bool.not_true, Bool.false_eq_true, if_false]
      try simp only [DL.ap_dC, DL.ap_dVar, DL.ap_dNil, DL.ap_dCons, DL.ap_dTup, DL.ap_dLst, DL.ap_dOp, DL.ap_dB, DL.ap_dChain, DL.ap_dTru, DL.ap_dAndT, DL.ap_dOrT, DL.ap_dNotT, DL.ap_dAndV, DL.ap_dOrV, DL.ap_dNotV, DL.ap_dIf, DL.ap_dUn, DL.ap_dCall, DL.ap_dNoPart, DL.ap_dPart, DL.ap_dSl, DL.ap_dBM, DL.ap_dBM0, DL.ap_dFn, DL.ap_dLc, DL.ap_dYes, DL.ap_dRg1, DL.ap_dRg2, DL.ap_dLrg, DL.ap_dTrg, DL.ap_iAny, DL.ap_iRng1, DL.ap_iRng2, DL.ap_iRng3, DL.ap_rng1P, DL.ap_rng2P, DL.ap_rng3P, DL.ap_iZip, DL.ap_dLzip, DL.ap_dZ2, DL.ap_iEnm, DL.ap_a1, DL.ap_a2, DL.ap_sqT, DL.ap_sqR, DL.ap_dNext, DL.ap_dSeq, DL.ap_dBreak, DL.ap_dCont, DL.ap_dDrop, DL.ap_dRet, DL.ap_dRetN, DL.ap_dIfS, DL.ap_dAsg, DL.ap_dPar, DL.ap_a3, DL.ap_dPar3, DL.ap_dAug, DL.ap_dAugS, DL.ap_dFor, DL.ap_gSet, DL.ap_gTup, DL.ap_gNil, DL.ap_gCons, DL.ap_gSub, DL.tr_non, DL.tr_bl, DL.tr_int, DL.tr_str, DL.tr_tup, DL.tr_ref, DL.ad_int, DL.ad_tup, DL.ad_ref, DL.sb_int, DL.mu_int, DL.mu_tup, DL.mu_ref, DL.fd_int, DL.md_int, DL.pw_int, DL.ng_int, DL.i2_int, DL.ci_int, DL.is_bl, DL.is_nn, DL.is_in, DL.is_tn, DL.is_rn, DL.is_sn, DL.ix_tup, DL.ix_ref, DL.ixl_ref, DL.sl_tup, DL.sl_lw, DL.sl_ref, DL.st_ref, DL.ap_append, DL.ap_extend, DL.ap_popI, DL.ap_pop0, DL.ty_ref, DL.ln_tup, DL.ln_ref, DL.ab_int, DL.in_int, DL.in_bl, DL.mn_int, DL.mx_int, DL.sm_of, DL.al_ref, DL.an_ref, DL.li_of, DL.tu_of, DL.so_ref, DL.getV_0, DL.getV_s, DL.set_0, DL.set_s, DL.startD_nil, DL.startD_cons, DL.rep_0, DL.rep_s, DL.wipe_nil, DL.wipe_cons, DL.isB_bl, DL.isN_int, DL.someD_some, DL.at0, DL.at1, DL.at2, DL.at3, DL.at4, DL.at5, DL.up1_same, DL.up_up]
      try simp only [Bool.false_eq_true, if_false]
      refine lstAt_of (ge _ _ ha) (lstAt_of (ge _ _ hb) ?_)
      refine ne_ints ?_
      rw [hul.1, decide_eq_true rfl]
      simp only [Bool.not_true, Bool.false_eq_true, if_false]
      unfold d__law_alike_1
      try simp only [DL.ap_dC, DL.ap_dVar, DL.ap_dNil, DL.ap_dCons, DL.ap_dTup, DL.ap_dLst, DL.ap_dOp, DL.ap_dB, DL.ap_dChain, DL.ap_dTru, DL.ap_dAndT, DL.ap_dOrT, DL.ap_dNotT, DL.ap_dAndV, DL.ap_dOrV, DL.ap_dNotV, DL.ap_dIf, DL.ap_dUn, DL.ap_dCall, DL.ap_dNoPart, DL.ap_dPart, DL.ap_dSl, DL.ap_dBM, DL.ap_dBM0, DL.ap_dFn, DL.ap_dLc, DL.ap_dYes, DL.ap_dRg1, DL.ap_dRg2, DL.ap_dLrg, DL.ap_dTrg, DL.ap_iAny, DL.ap_iRng1, DL.ap_iRng2, DL.ap_iRng3, DL.ap_rng1P, DL.ap_rng2P, DL.ap_rng3P, DL.ap_iZip, DL.ap_dLzip, DL.ap_dZ2, DL.ap_iEnm, DL.ap_a1, DL.ap_a2, DL.ap_sqT, DL.ap_sqR, DL.ap_dNext, DL.ap_dSeq, DL.ap_dBreak, DL.ap_dCont, DL.ap_dDrop, DL.ap_dRet, DL.ap_dRetN, DL.ap_dIfS, DL.ap_dAsg, DL.ap_dPar, DL.ap_a3, DL.ap_dPar3, DL.ap_dAug, DL.ap_dAugS, DL.ap_dFor, DL.ap_gSet, DL.ap_gTup, DL.ap_gNil, DL.ap_gCons, DL.ap_gSub, DL.tr_non, DL.tr_bl, DL.tr_int, DL.tr_str, DL.tr_tup, DL.tr_ref, DL.ad_int, DL.ad_tup, DL.ad_ref, DL.sb_int, DL.mu_int, DL.mu_tup, DL.mu_ref, DL.fd_int, DL.md_int, DL.pw_int, DL.ng_int, DL.i2_int, DL.ci_int, DL.is_bl, DL.is_nn, DL.is_in, DL.is_tn, DL.is_rn, DL.is_sn, DL.ix_tup, DL.ix_ref, DL.ixl_ref, DL.sl_tup, DL.sl_lw, DL.sl_ref, DL.st_ref, DL.ap_append, DL.ap_extend, DL.ap_popI, DL.ap_pop0, DL.ty_ref, DL.ln_tup, DL.ln_ref, DL.ab_int, DL.in_int, DL.in_bl, DL.mn_int, DL.mx_int, DL.sm_of, DL.al_ref, DL.an_ref, DL.li_of, DL.tu_of, DL.so_ref, DL.getV_0, DL.getV_s, DL.set_0, DL.set_s, DL.startD_nil, DL.startD_cons, DL.rep_0, DL.rep_s, DL.wipe_nil, DL.wipe_cons, DL.isB_bl, DL.isN_int, DL.someD_some, DL.at0, DL.at1, DL.at2, DL.at3, DL.at4, DL.at5, DL.up1_same, DL.up_up]
      refine ⟨lstAt_of g1 trivial, lstAt_of (ge _ _ ha) (lstAt_of (ge _ _ hb) ?_)⟩
      (intro q n3; generalize eS_ : up1 _ q _ = S3; have e3 := Ext.new_eq eS_ n3; have f3 := up_eq eS_; clear eS_)
      refine lstAt_of (e3 _ _ g1) (lstAt_of f3 ⟨?_, ?_⟩)
      · rw [zipD_length]; exact line (by omega)
      · refine ⟨m1 + n0, by omega, L ++ zipD us vs, k + 1, xs1 ++ us, ys1 ++ vs, _, _, (by first | exact rfl | trivial), (by first | exact rfl | exact up1_same), ?_, ?_, ht.app hu, by omega, ?_⟩
        · rw [List.drop_append_of_le_length (by omega), hdrop, zipD_app hl2.1]
        · rw [List.length_append, List.length_append, zipD_length]; omega
        · exact fun b cc hb => by
            have nb : b ≠ p := ne_new hb n1
            rw [up1_ne nb]
            exact e3 _ _ (ge _ _ hb)
end Cc

set_option Elab.async false
set_option linter.all false
set_option maxRecDepth 100000
set_option maxHeartbeats 4000000
namespace Cc
open PySem DL L2 Ca Cb
theorem lt_sorted {ns xs : List Int} (hp : ns.Perm xs) (hd : xs.Nodup) (hs : ns.Pairwise (· ≤ ·)) : ns.Pairwise (· < ·) := by
  have h2 : ns.Nodup := hp.symm.nodup hd
  exact (List.Pairwise.and hs h2).imp fun ⟨a, b⟩ => by omega
theorem cut_ints {ns : List Int} {k : Nat} : cutD (ns.map D.int) none (some (k : Int)) = (ns.take (min k ns.length)).map D.int := by
  have := cut_top (xs := ns.map D.int) (n := k)
  rw [List.length_map, ← List.map_take] at this
  exact this
def Usual (us : List Int) : Prop := us.Nodup ∧ ∀ v ∈ us, 1 ≤ v ∧ v ≤ 100
theorem usual_all : ∀ us ∈ ([[1, 2, 5, 10], [5, 10, 25, 100], [1, 3, 4], [2, 3, 7], [1, 5, 10, 50], [3, 6, 12, 24]] : List (List Int)), us.Nodup ∧ (∀ v ∈ us, 1 ≤ v ∧ v ≤ 100) ∧ us.length ≤ 4 := by decide
theorem rng_ints {g : Int} : rngD 1 (g + 1 - 1).toNat = ((List.range g.toNat).map fun i : Nat => (1 : Int) + i).map D.int := by
  unfold rngD
  rw [List.map_map, show g + 1 - 1 = g by omega]
  rfl
theorem rng_nodup {g : Int} : ((List.range g.toNat).map fun i : Nat => (1 : Int) + i).Nodup := by
  refine List.Pairwise.map (R := (· ≠ ·)) _ (fun a b h => ?_) List.nodup_range
  show (1 : Int) + a ≠ 1 + b
  omega
theorem perm_ints {ys : List D} {ns : List Int} (h : ys.Perm (ns.map D.int)) : ∃ ms : List Int, ys = ms.map D.int ∧ ms.Perm ns := by
  have hI : ys.all isI = true := by
    rw [List.all_eq_true]
    intro y hy
    obtain ⟨i, _, rfl⟩ := List.mem_map.mp (h.mem_iff.mp hy)
    rfl
  obtain ⟨ms, rfl⟩ := isI_ints hI
  refine ⟨ms, rfl, ?_⟩
  have := h.map fun d => match d with | .int i => i | _ => 0
  rw [List.map_map, List.map_map] at this
  simpa [Function.comp_def] using this
theorem len__law_coinage : ∀ ds S P EP, sp__law_coinage ds S P EP → ds.length = 4 := by rintro _ S P EP ⟨a, c, k, g, cap, rfl, _⟩; rfl
theorem pure__law_coinage : ∀ ds S Q EP, sp__law_coinage ds S Q EP → d__law_coinage EP { nx := fun _ S' => Q .non S', rt := Q } (startD 7 ds) S := by
  rintro ds S Q EP ⟨a, c, k, g, cap, rfl, hb, hk, hkg, hg, hc0, hc1, h⟩
  -- the end: the values stand in a list
  have fin : ∀ (o4 : Option D) (v : Addr) (vs : List Int) (S1 : Sto), S1 v = some (.lst (vs.map D.int)) → v ≠ a → vs.length = k → vs.Pairwise (· < ·) → (∀ z ∈ vs, 1 ≤ z ∧ (z ≤ 100 ∨ z ≤ g)) → Bag a c S1 → ExtB a S S1 →
      d__law_coinage_1 EP { nx := fun _ S' => Q .non S', rt := Q } [some (.ref a), some (.int (k : Nat)), some (.int g), some (.int cap), o4, some (.ref v), none] S1 := by
    intro o4 v vs S1 hv nv hl hu hp hb1 e1
    unfold d__law_coinage_1
    try simp only [DL.ap_dC, DL.ap_dVar, DL.ap_dNil, DL.ap_dCons, DL.ap_dTup, DL.ap_dLst, DL.ap_dOp, DL.ap_dB, DL.ap_dChain, DL.ap_dTru, DL.ap_dAndT, DL.ap_dOrT, DL.ap_dNotT, DL.ap_dAndV, DL.ap_dOrV, DL.ap_dNotV, DL.ap_dIf, DL.ap_dUn, DL.ap_dCall, DL.ap_dNoPart, DL.ap_dPart, DL.ap_dSl, DL.ap_dBM, DL.ap_dBM0, DL.ap_dFn, DL.ap_dLc, DL.ap_dYes, DL.ap_dRg1, DL.ap_dRg2, DL.ap_dLrg, DL.ap_dTrg, DL.ap_iAny, DL.ap_iRng1, DL.ap_iRng2, DL.ap_iRng3, DL.ap_rng1P, DL.ap_rng2P, DL.ap_rng3P, DL.ap_iZip, DL.ap_dLzip, DL.ap_dZ2, DL.ap_iEnm, DL.ap_a1, DL.ap_a2, DL.ap_sqT, DL.ap_sqR, DL.ap_dNext, DL.ap_dSeq, DL.ap_dBreak, DL.ap_dCont, DL.ap_dDrop, DL.ap_dRet, DL.ap_dRetN, DL.ap_dIfS, DL.ap_dAsg, DL.ap_dPar, DL.ap_a3, DL.ap_dPar3, DL.ap_dAug, DL.ap_dAugS, DL.ap_dFor, DL.ap_gSet, DL.ap_gTup, DL.ap_gNil, DL.ap_gCons, DL.ap_gSub, DL.tr_non, DL.tr_bl, DL.tr_int, DL.tr_str, DL.tr_tup, DL.tr_ref, DL.ad_int, DL.ad_tup, DL.ad_ref, DL.sb_int, DL.mu_int, DL.mu_tup, DL.mu_ref, DL.fd_int, DL.md_int, DL.pw_int, DL.ng_int, DL.i2_int, DL.ci_int, DL.is_bl, DL.is_nn, DL.is_in, DL.is_tn, DL.is_rn, DL.is_sn, DL.ix_tup, DL.ix_ref, DL.ixl_ref, DL.sl_tup, DL.sl_lw, DL.sl_ref, DL.st_ref, DL.ap_append, DL.ap_extend, DL.ap_popI, DL.ap_pop0, DL.ty_ref, DL.ln_tup, DL.ln_ref, DL.ab_int, DL.in_int, DL.in_bl, DL.mn_int, DL.mx_int, DL.sm_of, DL.al_ref, DL.an_ref, DL.li_of, DL.tu_of, DL.so_ref, DL.getV_0, DL.getV_s, DL.set_0, DL.set_s, DL.startD_nil, DL.startD_cons, DL.rep_0, DL.rep_s, DL.wipe_nil, DL.wipe_cons, DL.isB_bl, DL.isN_int, DL.someD_some, DL.at0, DL.at1, DL.at2, DL.at3, DL.at4, DL.at5, DL.up1_same, DL.up_up]
    refine lstAt_of hv (lstAt_of hv ⟨by rw [List.length_map]; exact line (by omega), ?_⟩)
    refine lc_rel D.int (fun _ y => ∃ n, y = D.int n ∧ 0 ≤ n ∧ n ≤ cap) (fun S' => Bag a c S' ∧ ExtB a S S' ∧ S' v = some (.lst (vs.map D.int))) (fun _ hI => hI.2.2) vs (fun x hx S2 Y hI hY => ?_) S1 _ ⟨hb1, e1, hv⟩ fun ys S2 hys hI => ?_
    · try simp only [DL.ap_dC, DL.ap_dVar, DL.ap_dNil, DL.ap_dCons, DL.ap_dTup, DL.ap_dLst, DL.ap_dOp, DL.ap_dB, DL.ap_dChain, DL.ap_dTru, DL.ap_dAndT, DL.ap_dOrT, DL.ap_dNotT, DL.ap_dAndV, DL.ap_dOrV, DL.ap_dNotV, DL.ap_dIf, DL.ap_dUn, DL.ap_dCall, DL.ap_dNoPart, DL.ap_dPart, DL.ap_dSl, DL.ap_dBM, DL.ap_dBM0, DL.ap_dFn, DL.ap_dLc, DL.ap_dYes, DL.ap_dRg1, DL.ap_dRg2, DL.ap_dLrg, DL.ap_dTrg, DL.ap_iAny, DL.ap_iRng1, DL.ap_iRng2, DL.ap_iRng3, DL.ap_rng1P, DL.ap_rng2P, DL.ap_rng3P, DL.ap_iZip, DL.ap_dLzip, DL.ap_dZ2, DL.ap_iEnm, DL.ap_a1, DL.ap_a2, DL.ap_sqT, DL.ap_sqR, DL.ap_dNext, DL.ap_dSeq, DL.ap_dBreak, DL.ap_dCont, DL.ap_dDrop, DL.ap_dRet, DL.ap_dRetN, DL.ap_dIfS, DL.ap_dAsg, DL.ap_dPar, DL.ap_a3, DL.ap_dPar3, DL.ap_dAug, DL.ap_dAugS, DL.ap_dFor, DL.ap_gSet, DL.ap_gTup, DL.ap_gNil, DL.ap_gCons, DL.ap_gSub, DL.tr_non, DL.tr_bl, DL.tr_int, DL.tr_str, DL.tr_tup, DL.tr_ref, DL.ad_int, DL.ad_tup, DL.ad_ref, DL.sb_int, DL.mu_int, DL.mu_tup, DL.mu_ref, DL.fd_int, DL.md_int, DL.pw_int, DL.ng_int, DL.i2_int, DL.ci_int, DL.is_bl, DL.is_nn, DL.is_in, DL.is_tn, DL.is_rn, DL.is_sn, DL.ix_tup, DL.ix_ref, DL.ixl_ref, DL.sl_tup, DL.sl_lw, DL.sl_ref, DL.st_ref, DL.ap_append, DL.ap_extend, DL.ap_popI, DL.ap_pop0, DL.ty_ref, DL.ln_tup, DL.ln_ref, DL.ab_int, DL.in_int, DL.in_bl, DL.mn_int, DL.mx_int, DL.sm_of, DL.al_ref, DL.an_ref, DL.li_of, DL.tu_of, DL.so_ref, DL.getV_0, DL.getV_s, DL.set_0, DL.set_s, DL.startD_nil, DL.startD_cons, DL.rep_0, DL.rep_s, DL.wipe_nil, DL.wipe_cons, DL.isB_bl, DL.isN_int, DL.someD_some, DL.at0, DL.at1, DL.at2, DL.at3, DL.at4, DL.at5, DL.up1_same, DL.up_up]
      exact ⟨a, c, _, rfl, hI.1, by omega, by omega, fun z S3 v0 v1 hb3 e3 => hY _ _ ⟨z, rfl, v0, by omega⟩ ⟨hb3, hI.2.1.trans e3, e3 _ _ nv hI.2.2⟩⟩
    · obtain ⟨ns, rfl, hns⟩ := all2_ints hys
      (intro p n3; generalize eS_ : up1 _ p _ = S3; have e3 := Ext.new_eq eS_ n3; have f3 := up_eq eS_; clear eS_)
      refine lstAt_of f3 ⟨line (show 2 ≤ 1000000 by decide), ?_⟩
      exact h vs ns S3 ⟨hl, by rw [← hns.length]; exact hl, hu, hp, fun n hn => hns.right (P := fun n => 0 ≤ n ∧ n ≤ cap) (fun _ _ h => h) n hn⟩ (hI.1.ext e3) (hI.2.1.trans e3.but)
  unfold d__law_coinage
  try simp only [DL.ap_dC, DL.ap_dVar, DL.ap_dNil, DL.ap_dCons, DL.ap_dTup, DL.ap_dLst, DL.ap_dOp, DL.ap_dB, DL.ap_dChain, DL.ap_dTru, DL.ap_dAndT, DL.ap_dOrT, DL.ap_dNotT, DL.ap_dAndV, DL.ap_dOrV, DL.ap_dNotV, DL.ap_dIf, DL.ap_dUn, DL.ap_dCall, DL.ap_dNoPart, DL.ap_dPart, DL.ap_dSl, DL.ap_dBM, DL.ap_dBM0, DL.ap_dFn, DL.ap_dLc, DL.ap_dYes, DL.ap_dRg1, DL.ap_dRg2, DL.ap_dLrg, DL.ap_dTrg, DL.ap_iAny, DL.ap_iRng1, DL.ap_iRng2, DL.ap_iRng3, DL.ap_rng1P, DL.ap_rng2P, DL.ap_rng3P, DL.ap_iZip, DL.ap_dLzip, DL.ap_dZ2, DL.ap_iEnm, DL.ap_a1, DL.ap_a2, DL.ap_sqT, DL.ap_sqR, DL.ap_dNext, DL.ap_dSeq, DL.ap_dBreak, DL.ap_dCont, DL.ap_dDrop, DL.ap_dRet, DL.ap_dRetN, DL.ap_dIfS, DL.ap_dAsg, DL.ap_dPar, DL.ap_a3, DL.ap_dPar3, DL.ap_dAug, DL.ap_dAugS, DL.ap_dFor, DL.ap_gSet, DL.ap_gTup, DL.ap_gNil, DL.ap_gCons, DL.ap_gSub, DL.tr_non, DL.tr_bl, DL.tr_int, DL.tr_str, DL.tr_tup, DL.tr_ref, DL.ad_int, DL.ad_tup, DL.ad_ref, DL.sb_int, DL.mu_int, DL.mu_tup, DL.mu_ref, DL.fd_int, DL.md_int, DL.pw_int, DL.ng_int, DL.i2_int, DL.ci_int, DL.is_bl, DL.is_nn, DL.is_in, DL.is_tn, DL.is_rn, DL.is_sn, DL.ix_tup, DL.ix_ref, DL.ixl_ref, DL.sl_tup, DL.sl_lw, DL.sl_ref, DL.st_ref, DL.ap_append, DL.ap_extend, DL.ap_popI, DL.ap_pop0, DL.ty_ref, DL.ln_tup, DL.ln_ref, DL.ab_int, DL.in_int, DL.in_bl, DL.mn_int, DL.mx_int, DL.sm_of, DL.al_ref, DL.an_ref, DL.li_of, DL.tu_of, DL.so_ref, DL.getV_0, DL.getV_s, DL.set_0, DL.set_s, DL.startD_nil, DL.startD_cons, DL.rep_0, DL.rep_s, DL.wipe_nil, DL.wipe_cons, DL.isB_bl, DL.isN_int, DL.someD_some, DL.at0, DL.at1, DL.at2, DL.at3, DL.at4, DL.at5, DL.up1_same, DL.up_up]
  refine ⟨line (show 4 ≤ 1000000 by decide), ?_⟩
  (intro p1 n1; generalize eS_ : up1 _ p1 _ = S1; have e1 := Ext.new_eq eS_ n1; have f1 := up_eq eS_; clear eS_)
  refine ⟨line (show 4 ≤ 1000000 by decide), ?_⟩
  (intro p2 n2; generalize eS_ : up1 _ p2 _ = S2; have e2 := Ext.new_eq eS_ n2; have f2 := up_eq eS_; clear eS_)
  refine ⟨line (show 3 ≤ 1000000 by decide), ?_⟩
  (intro p3 n3; generalize eS_ : up1 _ p3 _ = S3; have e3 := Ext.new_eq eS_ n3; have f3 := up_eq eS_; clear eS_)
  refine ⟨line (show 3 ≤ 1000000 by decide), ?_⟩
  (intro p4 n4; generalize eS_ : up1 _ p4 _ = S4; have e4 := Ext.new_eq eS_ n4; have f4 := up_eq eS_; clear eS_)
  refine ⟨line (show 4 ≤ 1000000 by decide), ?_⟩
  (intro p5 n5; generalize eS_ : up1 _ p5 _ = S5; have e5 := Ext.new_eq eS_ n5; have f5 := up_eq eS_; clear eS_)
  refine ⟨line (show 4 ≤ 1000000 by decide), ?_⟩
  (intro p6 n6; generalize eS_ : up1 _ p6 _ = S6; have e6 := Ext.new_eq eS_ n6; have f6 := up_eq eS_; clear eS_)
  refine ⟨line (show 6 ≤ 1000000 by decide), ?_⟩
  (intro p7 n7; generalize eS_ : up1 _ p7 _ = S7; have e7 := Ext.new_eq eS_ n7; have f7 := up_eq eS_; clear eS_)
  have e37 := ((e4.trans e5).trans e6).trans e7
  have e07 := ((e1.trans e2).trans e3).trans e37
  have hb7 := hb.ext e07
  have k1 : S1 p1 = some (.lst ([1, 2, 5, 10].map D.int)) := f1
  have k2 : S2 p2 = some (.lst ([5, 10, 25, 100].map D.int)) := f2
  have k3 : S3 p3 = some (.lst ([1, 3, 4].map D.int)) := f3
  have k4 : S4 p4 = some (.lst ([2, 3, 7].map D.int)) := f4
  have k5 : S5 p5 = some (.lst ([1, 5, 10, 50].map D.int)) := f5
  have k6 : S6 p6 = some (.lst ([3, 6, 12, 24].map D.int)) := f6
  have all : ∀ d ∈ [D.ref p1, .ref p2, .ref p3, .ref p4, .ref p5, .ref p6], ∃ (u : Addr) (us : List Int), d = .ref u ∧ S7 u = some (.lst (us.map D.int)) ∧ u ≠ a ∧ us ∈ ([[1, 2, 5, 10], [5, 10, 25, 100], [1, 3, 4], [2, 3, 7], [1, 5, 10, 50], [3, 6, 12, 24]] : List (List Int)) := by
    intro d hd
    simp only [List.mem_cons, List.not_mem_nil, or_false] at hd
    rcases hd with rfl | rfl | rfl | rfl | rfl | rfl
    · exact ⟨p1, _, rfl, e37 _ _ (e3 _ _ (e2 _ _ k1)), (hb.ne n1).1, by simp⟩
    · exact ⟨p2, _, rfl, e37 _ _ (e3 _ _ k2), ((hb.ext e1).ne n2).1, by simp⟩
    · exact ⟨p3, _, rfl, e37 _ _ k3, (((hb.ext e1).ext e2).ne n3).1, by simp⟩
    · exact ⟨p4, _, rfl, e7 _ _ (e6 _ _ (e5 _ _ k4)), ((((hb.ext e1).ext e2).ext e3).ne n4).1, by simp⟩
    · exact ⟨p5, _, rfl, e7 _ _ (e6 _ _ k5), (((((hb.ext e1).ext e2).ext e3).ext e4).ne n5).1, by simp⟩
    · exact ⟨p6, _, rfl, e7 _ _ k6, ((((((hb.ext e1).ext e2).ext e3).ext e4).ext e5).ne n6).1, by simp⟩
  have n7a : p7 ≠ a := (((((((hb.ext e1).ext e2).ext e3).ext e4).ext e5).ext e6).ne n7).1
  refine ⟨a, c, _, _, rfl, hb7, .inr ⟨p7, rfl, f7, n7a⟩, by simp, by simp, fun d S8 hd hb8 e8 => ?_⟩
  obtain ⟨u, us, rfl, hu, nu, hus⟩ := all d hd
  obtain ⟨hnd, hin, hul⟩ := usual_all us hus
  have hu8 : S8 u = some (.lst (us.map D.int)) := e8 _ _ nu hu
  have E8 : ExtB a S S8 := e07.but.trans e8
  try simp only [DL.ap_dC, DL.ap_dVar, DL.ap_dNil, DL.ap_dCons, DL.ap_dTup, DL.ap_dLst, DL.ap_dOp, DL.ap_dB, DL.ap_dChain, DL.ap_dTru, DL.ap_dAndT, DL.ap_dOrT, DL.ap_dNotT, DL.ap_dAndV, DL.ap_dOrV, DL.ap_dNotV, DL.ap_dIf, DL.ap_dUn, DL.ap_dCall, DL.ap_dNoPart, DL.ap_dPart, DL.ap_dSl, DL.ap_dBM, DL.ap_dBM0, DL.ap_dFn, DL.ap_dLc, DL.ap_dYes, DL.ap_dRg1, DL.ap_dRg2, DL.ap_dLrg, DL.ap_dTrg, DL.ap_iAny, DL.ap_iRng1, DL.ap_iRng2, DL.ap_iRng3, DL.ap_rng1P, DL.ap_rng2P, DL.ap_rng3P, DL.ap_iZip, DL.ap_dLzip, DL.ap_dZ2, DL.ap_iEnm, DL.ap_a1, DL.ap_a2, DL.ap_sqT, DL.ap_sqR, DL.ap_dNext, DL.ap_dSeq, DL.ap_dBreak, DL.ap_dCont, DL.ap_dDrop, DL.ap_dRet, DL.ap_dRetN, DL.ap_dIfS, DL.ap_dAsg, DL.ap_dPar, DL.ap_a3, DL.ap_dPar3, DL.ap_dAug, DL.ap_dAugS, DL.ap_dFor, DL.ap_gSet, DL.ap_gTup, DL.ap_gNil, DL.ap_gCons, DL.ap_gSub, DL.tr_non, DL.tr_bl, DL.tr_int, DL.tr_str, DL.tr_tup, DL.tr_ref, DL.ad_int, DL.ad_tup, DL.ad_ref, DL.sb_int, DL.mu_int, DL.mu_tup, DL.mu_ref, DL.fd_int, DL.md_int, DL.pw_int, DL.ng_int, DL.i2_int, DL.ci_int, DL.is_bl, DL.is_nn, DL.is_in, DL.is_tn, DL.is_rn, DL.is_sn, DL.ix_tup, DL.ix_ref, DL.ixl_ref, DL.sl_tup, DL.sl_lw, DL.sl_ref, DL.st_ref, DL.ap_append, DL.ap_extend, DL.ap_popI, DL.ap_pop0, DL.ty_ref, DL.ln_tup, DL.ln_ref, DL.ab_int, DL.in_int, DL.in_bl, DL.mn_int, DL.mx_int, DL.sm_of, DL.al_ref, DL.an_ref, DL.li_of, DL.tu_of, DL.so_ref, DL.getV_0, DL.getV_s, DL.set_0, DL.set_s, DL.startD_nil, DL.startD_cons, DL.rep_0, DL.rep_s, DL.wipe_nil, DL.wipe_cons, DL.isB_bl, DL.isN_int, DL.someD_some, DL.at0, DL.at1, DL.at2, DL.at3, DL.at4, DL.at5, DL.up1_same, DL.up_up]
  unfold d__law_coinage_3
  try simp only [DL.ap_dC, DL.ap_dVar, DL.ap_dNil, DL.ap_dCons, DL.ap_dTup, DL.ap_dLst, DL.ap_dOp, DL.ap_dB, DL.ap_dChain, DL.ap_dTru, DL.ap_dAndT, DL.ap_dOrT, DL.ap_dNotT, DL.ap_dAndV, DL.ap_dOrV, DL.ap_dNotV, DL.ap_dIf, DL.ap_dUn, DL.ap_dCall, DL.ap_dNoPart, DL.ap_dPart, DL.ap_dSl, DL.ap_dBM, DL.ap_dBM0, DL.ap_dFn, DL.ap_dLc, DL.ap_dYes, DL.ap_dRg1, DL.ap_dRg2, DL.ap_dLrg, DL.ap_dTrg, DL.ap_iAny, DL.ap_iRng1, DL.ap_iRng2, DL.ap_iRng3, DL.ap_rng1P, DL.ap_rng2P, DL.ap_rng3P, DL.ap_iZip, DL.ap_dLzip, DL.ap_dZ2, DL.ap_iEnm, DL.ap_a1, DL.ap_a2, DL.ap_sqT, DL.ap_sqR, DL.ap_dNext, DL.ap_dSeq, DL.ap_dBreak, DL.ap_dCont, DL.ap_dDrop, DL.ap_dRet, DL.ap_dRetN, DL.ap_dIfS, DL.ap_dAsg, DL.ap_dPar, DL.ap_a3, DL.ap_dPar3, DL.ap_dAug, DL.ap_dAugS, DL.ap_dFor, DL.ap_gSet, DL.ap_gTup, DL.ap_gNil, DL.ap_gCons, DL.ap_gSub, DL.tr_non, DL.tr_bl, DL.tr_int, DL.tr_str, DL.tr_tup, DL.tr_ref, DL.ad_int, DL.ad_tup, DL.ad_ref, DL.sb_int, DL.mu_int, DL.mu_tup, DL.mu_ref, DL.fd_int, DL.md_int, DL.pw_int, DL.ng_int, DL.i2_int, DL.ci_int, DL.is_bl, DL.is_nn, DL.is_in, DL.is_tn, DL.is_rn, DL.is_sn, DL.ix_tup, DL.ix_ref, DL.ixl_ref, DL.sl_tup, DL.sl_lw, DL.sl_ref, DL.st_ref, DL.ap_append, DL.ap_extend, DL.ap_popI, DL.ap_pop0, DL.ty_ref, DL.ln_tup, DL.ln_ref, DL.ab_int, DL.in_int, DL.in_bl, DL.mn_int, DL.mx_int, DL.sm_of, DL.al_ref, DL.an_ref, DL.li_of, DL.tu_of, DL.so_ref, DL.getV_0, DL.getV_s, DL.set_0, DL.set_s, DL.startD_nil, DL.startD_cons, DL.rep_0, DL.rep_s, DL.wipe_nil, DL.wipe_cons, DL.isB_bl, DL.isN_int, DL.someD_some, DL.at0, DL.at1, DL.at2, DL.at3, DL.at4, DL.at5, DL.up1_same, DL.up_up]
  refine lstAt_of hu8 ?_
  rw [cut_ints]
  (intro q n9; generalize eS_ : up1 _ q _ = S9; have e9 := Ext.new_eq eS_ n9; have f9 := up_eq eS_; clear eS_)
  refine ⟨_, f9, fun vs r hvp hvs => ?_⟩
  intro n10
  generalize eS_ : up1 S9 r _ = S10
  have e10 := Ext.new_eq eS_ n10
  have f10 := up_eq eS_
  clear eS_
  have hb10 := (hb8.ext e9).ext e10
  have nr := ((hb8.ext e9).ne n10).1
  have E10 := E8.trans (e9.trans e10).but
  have hvl := hvp.length_eq
  rw [List.length_take] at hvl
  have hvin : ∀ z ∈ vs, 1 ≤ z ∧ (z ≤ 100 ∨ z ≤ g) := fun z hz => by
    have := hin z (List.mem_of_mem_take (hvp.mem_iff.mp hz))
    omega
  have hvu : vs.Pairwise (· < ·) := lt_sorted hvp (hnd.sublist (List.take_sublist _ _)) hvs
  unfold d__law_coinage_2
  try simp only [DL.ap_dC, DL.ap_dVar, DL.ap_dNil, DL.ap_dCons, DL.ap_dTup, DL.ap_dLst, DL.ap_dOp, DL.ap_dB, DL.ap_dChain, DL.ap_dTru, DL.ap_dAndT, DL.ap_dOrT, DL.ap_dNotT, DL.ap_dAndV, DL.ap_dOrV, DL.ap_dNotV, DL.ap_dIf, DL.ap_dUn, DL.ap_dCall, DL.ap_dNoPart, DL.ap_dPart, DL.ap_dSl, DL.ap_dBM, DL.ap_dBM0, DL.ap_dFn, DL.ap_dLc, DL.ap_dYes, DL.ap_dRg1, DL.ap_dRg2, DL.ap_dLrg, DL.ap_dTrg, DL.ap_iAny, DL.ap_iRng1, DL.ap_iRng2, DL.ap_iRng3, DL.ap_rng1P, DL.ap_rng2P, DL.ap_rng3P, DL.ap_iZip, DL.ap_dLzip, DL.ap_dZ2, DL.ap_iEnm, DL.ap_a1, DL.ap_a2, DL.ap_sqT, DL.ap_sqR, DL.ap_dNext, DL.ap_dSeq, DL.ap_dBreak, DL.ap_dCont, DL.ap_dDrop, DL.ap_dRet, DL.ap_dRetN, DL.ap_dIfS, DL.ap_dAsg, DL.ap_dPar, DL.ap_a3, DL.ap_dPar3, DL.ap_dAug, DL.ap_dAugS, DL.ap_dFor, DL.ap_gSet, DL.ap_gTup, DL.ap_gNil, DL.ap_gCons, DL.ap_gSub, DL.tr_non, DL.tr_bl, DL.tr_int, DL.tr_str, DL.tr_tup, DL.tr_ref, DL.ad_int, DL.ad_tup, DL.ad_ref, DL.sb_int, DL.mu_int, DL.mu_tup, DL.mu_ref, DL.fd_int, DL.md_int, DL.pw_int, DL.ng_int, DL.i2_int, DL.ci_int, DL.is_bl, DL.is_nn, DL.is_in, DL.is_tn, DL.is_rn, DL.is_sn, DL.ix_tup, DL.ix_ref, DL.ixl_ref, DL.sl_tup, DL.sl_lw, DL.sl_ref, DL.st_ref, DL.ap_append, DL.ap_extend, DL.ap_popI, DL.ap_pop0, DL.ty_ref, DL.ln_tup, DL.ln_ref, DL.ab_int, DL.in_int, DL.in_bl, DL.mn_int, DL.mx_int, DL.sm_of, DL.al_ref, DL.an_ref, DL.li_of, DL.tu_of, DL.so_ref, DL.getV_0, DL.getV_s, DL.set_0, DL.set_s, DL.startD_nil, DL.startD_cons, DL.rep_0, DL.rep_s, DL.wipe_nil, DL.wipe_cons, DL.isB_bl, DL.isN_int, DL.someD_some, DL.at0, DL.at1, DL.at2, DL.at3, DL.at4, DL.at5, DL.up1_same, DL.up_up]
  refine ⟨a, c, _, rfl, hb10, by decide, by decide, fun z S11 _ _ hb11 e11 => ?_⟩
  have f11 : S11 r = some (.lst (vs.map D.int)) := e11 _ _ nr f10
  have E11 := E10.trans e11
  -- drawn out of all up to the greatest
  have other : ∀ o4, (RgOk 1 (g + 1) ∧ ∀ p, S11 p = none → sp__law_mixed [.ref a, .ref p] (up1 S11 p (.lst (rngD 1 (g + 1 - 1).toNat))) (fun x S1 => dSlc x none (some (k : Int)) S1 fun x S1 => dSortI [x] S1 fun x S1 => d__law_coinage_1 EP { nx := fun _ S' => Q .non S', rt := Q } [some (.ref a), some (.int (k : Nat)), some (.int g), some (.int cap), o4, some x, none] S1) fun e S2 => EP e S2) := by
    intro o4
    refine ⟨RgOk.of_le (by decide) (by omega) (by decide) (by omega), ?_⟩
    (intro p n12; generalize eS_ : up1 _ p _ = S12; have e12 := Ext.new_eq eS_ n12; have f12 := up_eq eS_; clear eS_)
    rw [rng_ints] at f12
    have hl12 : ((List.range g.toNat).map fun i : Nat => (1 : Int) + i).length = g.toNat := by simp
    refine ⟨a, c, _, _, rfl, hb11.ext e12, .inr ⟨p, rfl, f12, (hb11.ne n12).1⟩, isDs_ints _ _, by rw [List.length_map, hl12]; omega, fun y ys S13 hys hb13 e13 n13 f13 => ?_⟩
    obtain ⟨ms, rfl, hms⟩ := perm_ints hys
    try simp only [DL.ap_dC, DL.ap_dVar, DL.ap_dNil, DL.ap_dCons, DL.ap_dTup, DL.ap_dLst, DL.ap_dOp, DL.ap_dB, DL.ap_dChain, DL.ap_dTru, DL.ap_dAndT, DL.ap_dOrT, DL.ap_dNotT, DL.ap_dAndV, DL.ap_dOrV, DL.ap_dNotV, DL.ap_dIf, DL.ap_dUn, DL.ap_dCall, DL.ap_dNoPart, DL.ap_dPart, DL.ap_dSl, DL.ap_dBM, DL.ap_dBM0, DL.ap_dFn, DL.ap_dLc, DL.ap_dYes, DL.ap_dRg1, DL.ap_dRg2, DL.ap_dLrg, DL.ap_dTrg, DL.ap_iAny, DL.ap_iRng1, DL.ap_iRng2, DL.ap_iRng3, DL.ap_rng1P, DL.ap_rng2P, DL.ap_rng3P, DL.ap_iZip, DL.ap_dLzip, DL.ap_dZ2, DL.ap_iEnm, DL.ap_a1, DL.ap_a2, DL.ap_sqT, DL.ap_sqR, DL.ap_dNext, DL.ap_dSeq, DL.ap_dBreak, DL.ap_dCont, DL.ap_dDrop, DL.ap_dRet, DL.ap_dRetN, DL.ap_dIfS, DL.ap_dAsg, DL.ap_dPar, DL.ap_a3, DL.ap_dPar3, DL.ap_dAug, DL.ap_dAugS, DL.ap_dFor, DL.ap_gSet, DL.ap_gTup, DL.ap_gNil, DL.ap_gCons, DL.ap_gSub, DL.tr_non, DL.tr_bl, DL.tr_int, DL.tr_str, DL.tr_tup, DL.tr_ref, DL.ad_int, DL.ad_tup, DL.ad_ref, DL.sb_int, DL.mu_int, DL.mu_tup, DL.mu_ref, DL.fd_int, DL.md_int, DL.pw_int, DL.ng_int, DL.i2_int, DL.ci_int, DL.is_bl, DL.is_nn, DL.is_in, DL.is_tn, DL.is_rn, DL.is_sn, DL.ix_tup, DL.ix_ref, DL.ixl_ref, DL.sl_tup, DL.sl_lw, DL.sl_ref, DL.st_ref, DL.ap_append, DL.ap_extend, DL.ap_popI, DL.ap_pop0, DL.ty_ref, DL.ln_tup, DL.ln_ref, DL.ab_int, DL.in_int, DL.in_bl, DL.mn_int, DL.mx_int, DL.sm_of, DL.al_ref, DL.an_ref, DL.li_of, DL.tu_of, DL.so_ref, DL.getV_0, DL.getV_s, DL.set_0, DL.set_s, DL.startD_nil, DL.startD_cons, DL.rep_0, DL.rep_s, DL.wipe_nil, DL.wipe_cons, DL.isB_bl, DL.isN_int, DL.someD_some, DL.at0, DL.at1, DL.at2, DL.at3, DL.at4, DL.at5, DL.up1_same, DL.up_up]
    refine lstAt_of f13 ?_
    rw [cut_ints]
    (intro q2 n14; generalize eS_ : up1 _ q2 _ = S14; have e14 := Ext.new_eq eS_ n14; have f14 := up_eq eS_; clear eS_)
    refine ⟨_, f14, fun ws r2 hwp hws => ?_⟩
    intro n15
    generalize eS_ : up1 S14 r2 _ = S15
    have e15 := Ext.new_eq eS_ n15
    have f15 := up_eq eS_
    clear eS_
    have hml := hms.length_eq
    rw [hl12] at hml
    have hwl := hwp.length_eq
    rw [List.length_take] at hwl
    have hmn : ms.Nodup := hms.symm.nodup rng_nodup
    refine fin o4 r2 ws S15 f15 (((hb13.ext e14).ne n15).1) (by omega) (lt_sorted hwp (hmn.sublist (List.take_sublist _ _)) hws) (fun z hz => ?_) ((hb13.ext e14).ext e15) ((E11.trans e12.but).trans (e13.trans (e14.trans e15).but))
    obtain ⟨i, hi, rfl⟩ := List.mem_map.mp (hms.mem_iff.mp (List.mem_of_mem_take (hwp.mem_iff.mp hz)))
    have := List.mem_range.mp hi
    omega
  refine eq_ints ?_
  try simp only [DL.ap_dC, DL.ap_dVar, DL.ap_dNil, DL.ap_dCons, DL.ap_dTup, DL.ap_dLst, DL.ap_dOp, DL.ap_dB, DL.ap_dChain, DL.ap_dTru, DL.ap_dAndT, DL.ap_dOrT, DL.ap_dNotT, DL.ap_dAndV, DL.ap_dOrV, DL.ap_dNotV, DL.ap_dIf, DL.ap_dUn, DL.ap_dCall, DL.ap_dNoPart, DL.ap_dPart, DL.ap_dSl, DL.ap_dBM, DL.ap_dBM0, DL.ap_dFn, DL.ap_dLc, DL.ap_dYes, DL.ap_dRg1, DL.ap_dRg2, DL.ap_dLrg, DL.ap_dTrg, DL.ap_iAny, DL.ap_iRng1, DL.ap_iRng2, DL.ap_iRng3, DL.ap_rng1P, DL.ap_rng2P, DL.ap_rng3P, DL.ap_iZip, DL.ap_dLzip, DL.ap_dZ2, DL.ap_iEnm, DL.ap_a1, DL.ap_a2, DL.ap_sqT, DL.ap_sqR, DL.ap_dNext, DL.ap_dSeq, DL.ap_dBreak, DL.ap_dCont, DL.ap_dDrop, DL.ap_dRet, DL.ap_dRetN, DL.ap_dIfS, DL.ap_dAsg, DL.ap_dPar, DL.ap_a3, DL.ap_dPar3, DL.ap_dAug, DL.ap_dAugS, DL.ap_dFor, DL.ap_gSet, DL.ap_gTup, DL.ap_gNil, DL.ap_gCons, DL.ap_gSub, DL.tr_non, DL.tr_bl, DL.tr_int, DL.tr_str, DL.tr_tup, DL.tr_ref, DL.ad_int, DL.ad_tup, DL.ad_ref, DL.sb_int, DL.mu_int, DL.mu_tup, DL.mu_ref, DL.fd_int, DL.md_int, DL.pw_int, DL.ng_int, DL.i2_int, DL.ci_int, DL.is_bl, DL.is_nn, DL.is_in, DL.is_tn, DL.is_rn, DL.is_sn, DL.ix_tup, DL.ix_ref, DL.ixl_ref, DL.sl_tup, DL.sl_lw, DL.sl_ref, DL.st_ref, DL.ap_append, DL.ap_extend, DL.ap_popI, DL.ap_pop0, DL.ty_ref, DL.ln_tup, DL.ln_ref, DL.ab_int, DL.in_int, DL.in_bl, DL.mn_int, DL.mx_int, DL.sm_of, DL.al_ref, DL.an_ref, DL.li_of, DL.tu_of, DL.so_ref, DL.getV_0, DL.getV_s, DL.set_0, DL.set_s, DL.startD_nil, DL.startD_cons, DL.rep_0, DL.rep_s, DL.wipe_nil, DL.wipe_cons, DL.isB_bl, DL.isN_int, DL.someD_some, DL.at0, DL.at1, DL.at2, DL.at3, DL.at4, DL.at5, DL.up1_same, DL.up_up]
  by_cases hz : z = 0
  · rw [if_pos (decide_eq_true hz)]
    rw [if_pos trivial]
    exact other _
  · rw [if_neg (by simpa using hz)]
    refine lstAt_of f11 ?_
    try simp only [DL.ap_dC, DL.ap_dVar, DL.ap_dNil, DL.ap_dCons, DL.ap_dTup, DL.ap_dLst, DL.ap_dOp, DL.ap_dB, DL.ap_dChain, DL.ap_dTru, DL.ap_dAndT, DL.ap_dOrT, DL.ap_dNotT, DL.ap_dAndV, DL.ap_dOrV, DL.ap_dNotV, DL.ap_dIf, DL.ap_dUn, DL.ap_dCall, DL.ap_dNoPart, DL.ap_dPart, DL.ap_dSl, DL.ap_dBM, DL.ap_dBM0, DL.ap_dFn, DL.ap_dLc, DL.ap_dYes, DL.ap_dRg1, DL.ap_dRg2, DL.ap_dLrg, DL.ap_dTrg, DL.ap_iAny, DL.ap_iRng1, DL.ap_iRng2, DL.ap_iRng3, DL.ap_rng1P, DL.ap_rng2P, DL.ap_rng3P, DL.ap_iZip, DL.ap_dLzip, DL.ap_dZ2, DL.ap_iEnm, DL.ap_a1, DL.ap_a2, DL.ap_sqT, DL.ap_sqR, DL.ap_dNext, DL.ap_dSeq, DL.ap_dBreak, DL.ap_dCont, DL.ap_dDrop, DL.ap_dRet, DL.ap_dRetN, DL.ap_dIfS, DL.ap_dAsg, DL.ap_dPar, DL.ap_a3, DL.ap_dPar3, DL.ap_dAug, DL.ap_dAugS, DL.ap_dFor, DL.ap_gSet, DL.ap_gTup, DL.ap_gNil, DL.ap_gCons, DL.ap_gSub, DL.tr_non, DL.tr_bl, DL.tr_int, DL.tr_str, DL.tr_tup, DL.tr_ref, DL.ad_int, DL.ad_tup, DL.ad_ref, DL.sb_int, DL.mu_int, DL.mu_tup, DL.mu_ref, DL.fd_int, DL.md_int, DL.pw_int, DL.ng_int, DL.i2_int, DL.ci_int, DL.is_bl, DL.is_nn, DL.is_in, DL.is_tn, DL.is_rn, DL.is_sn, DL.ix_tup, DL.ix_ref, DL.ixl_ref, DL.sl_tup, DL.sl_lw, DL.sl_ref, DL.st_ref, DL.ap_append, DL.ap_extend, DL.ap_popI, DL.ap_pop0, DL.ty_ref, DL.ln_tup, DL.ln_ref, DL.ab_int, DL.in_int, DL.in_bl, DL.mn_int, DL.mx_int, DL.sm_of, DL.al_ref, DL.an_ref, DL.li_of, DL.tu_of, DL.so_ref, DL.getV_0, DL.getV_s, DL.set_0, DL.set_s, DL.startD_nil, DL.startD_cons, DL.rep_0, DL.rep_s, DL.wipe_nil, DL.wipe_cons, DL.isB_bl, DL.isN_int, DL.someD_some, DL.at0, DL.at1, DL.at2, DL.at3, DL.at4, DL.at5, DL.up1_same, DL.up_up]
    by_cases hlt : vs.length < k
    · rw [if_pos (by simp; omega)]
      exact other _
    · rw [if_neg (by simp; omega)]
      exact fin _ r vs S11 f11 nr (by omega) hvu hvin hb11 E11
end Cc

set_option Elab.async false
set_option linter.all false
set_option maxRecDepth 100000
set_option maxHeartbeats 4000000
namespace K43
open PySem DL L2 Ca Cb Cc
abbrev sp_is_integer : FSp := Ca.sp_is_integer
abbrev sp_are_integers : FSp := Ca.sp_are_integers
abbrev sp_kinds : FSp := Ca.sp_kinds
abbrev sp_is_row : FSp := Ca.sp_is_row
abbrev sp_worth : FSp := Ca.sp_worth
abbrev sp__law_is_int : FSp := Ca.sp__law_is_int
abbrev sp__law_is_row : FSp := Cb.sp__law_is_row
abbrev sp__law_worth : FSp := Ca.sp__law_worth
abbrev sp__law_bag : FSp := Cb.sp__law_bag
abbrev sp__law_take : FSp := Cb.sp__law_take
abbrev sp__law_some : FSp := Cc.sp__law_some
abbrev sp__law_mixed : FSp := Cc.sp__law_mixed
abbrev sp__law_coinage : FSp := Cc.sp__law_coinage
abbrev sp__law_row : FSp := Cc.sp__law_row
abbrev sp__law_alike : FSp := Cc.sp__law_alike
abbrev sp__law_below : FSp := Cb.sp__law_below
def tab : Str → Option FSp := fun y => if y = "is_integer" then some sp_is_integer else none
abbrev sp_are_all : FSp := Ca.sp_are_all tab
/-! ### the mathematics -/
def getI : D → Int
  | .int i => i
  | _ => 0
def rowOf : D → List Int
  | .tup xs => xs.map getI
  | _ => []
theorem rowOf_tI (ns : List Int) : rowOf (tI ns) = ns := by
  show (ns.map D.int).map getI = ns
  rw [List.map_map]
  exact List.map_id'' (fun _ => rfl) ns
def isPay (vs : List Int) (price : Int) (x : D) : Bool := isRow vs.length x && (decide ((rowOf x).sum ≤ 20) && decide (price ≤ worthZ vs (rowOf x)))
def idleB (vs : List Int) (due : Int) (q : Int × Nat) : Bool := decide (0 < q.1) && decide (vs.getD q.2 0 ≤ due)
def idle (vs : List Int) (due : Int) (rs : List Int) : List Int := (rs.zipIdx.filter (idleB vs due)).map fun q => ((q.2 : Nat) : Int)
/-- from the last kind to the first: as many coins back as there are and as the due holds -/
def tz : List Int → List Int → Int → List Int × Int
  | v :: vs, r :: rs, d => ((r - (if (tz vs rs d).2 / v < r then (tz vs rs d).2 / v else r)) :: (tz vs rs d).1, (tz vs rs d).2 - (if (tz vs rs d).2 / v < r then (tz vs rs d).2 / v else r) * v)
  | _, _, d => ([], d)
def tight (vs rs : List Int) (price : Int) : List Int := (tz vs rs (worthZ vs rs - price)).1
structure Vok (vs : List Int) : Prop where
  pos : ∀ v ∈ vs, 1 ≤ v ∧ v ≤ 100000
  len : vs.length ≤ 1000
theorem Vok.sm {vs : List Int} (h : Vok vs) : ∀ v ∈ vs, Sm v := fun v hv => by
  have := h.pos v hv
  exact ⟨by omega, by omega⟩
theorem tz_len : ∀ (vs rs : List Int) (d : Int), vs.length = rs.length → (tz vs rs d).1.length = rs.length
  | [], [], _, _ => rfl
  | _ :: _, [], _, h => by simp at h
  | [], _ :: _, _, h => by simp at h
  | v :: vs, r :: rs, d, h => by
    show (tz vs rs d).1.length + 1 = rs.length + 1
    rw [tz_len vs rs d (by simpa using h)]
/-- what is left: the due stays, each kind's coins are gone or worth more than it -/
theorem tz_spec : ∀ (vs rs : List Int) (d : Int), vs.length = rs.length → (∀ v ∈ vs, 1 ≤ v) → (∀ r ∈ rs, 0 ≤ r) → 0 ≤ d →
    0 ≤ (tz vs rs d).2 ∧ (tz vs rs d).2 ≤ d ∧ d - (tz vs rs d).2 = worthZ vs rs - worthZ vs (tz vs rs d).1 ∧ (∀ p ∈ ((tz vs rs d).1).zip rs, 0 ≤ p.1 ∧ p.1 ≤ p.2) ∧ ∀ p ∈ ((tz vs rs d).1).zip vs, p.1 = 0 ∨ (tz vs rs d).2 < p.2
  | [], [], d, _, _, _, hd => ⟨hd, Int.le_refl _, by simp [tz, worthZ], by simp [tz], by simp [tz]⟩
  | _ :: _, [], _, h, _, _, _ => by simp at h
  | [], _ :: _, _, h, _, _, _ => by simp at h
  | v :: vs, r :: rs, d, h, hv, hr, hd => by
    obtain ⟨a1, a2, a3, a4, a5⟩ := tz_spec vs rs d (by simpa using h) (fun z hz => hv z (by simp [hz])) (fun z hz => hr z (by simp [hz])) hd
    have v1 := hv v (by simp)
    have r0 := hr r (by simp)
    generalize hb : (if (tz vs rs d).2 / v < r then (tz vs rs d).2 / v else r) = b
    have q0 : 0 ≤ (tz vs rs d).2 / v := Int.ediv_nonneg a1 (by omega)
    have qm := Int.mul_ediv_add_emod (tz vs rs d).2 v
    have qn := Int.emod_nonneg (tz vs rs d).2 (show v ≠ 0 by omega)
    have qp := Int.emod_lt_of_pos (tz vs rs d).2 (show 0 < v by omega)
    have b0 : 0 ≤ b := by rw [← hb]; split <;> omega
    have br : b ≤ r := by rw [← hb]; split <;> omega
    have bq : b ≤ (tz vs rs d).2 / v := by rw [← hb]; split <;> omega
    have bm : b * v ≤ (tz vs rs d).2 := by
      have := Int.mul_le_mul_of_nonneg_right bq (show 0 ≤ v by omega)
      rw [Int.mul_comm ((tz vs rs d).2 / v) v] at this
      omega
    have bm0 : 0 ≤ b * v := Int.mul_nonneg b0 (by omega)
    have e1 : (tz (v :: vs) (r :: rs) d).1 = (r - b) :: (tz vs rs d).1 := by rw [← hb]; rfl
    have e2 : (tz (v :: vs) (r :: rs) d).2 = (tz vs rs d).2 - b * v := by rw [← hb]; rfl
    rw [e1, e2]
    refine ⟨by omega, by omega, ?_, ?_, ?_⟩
    · show d - ((tz vs rs d).2 - b * v) = v * r + worthZ vs rs - (v * (r - b) + worthZ vs (tz vs rs d).1)
      rw [Int.mul_sub, Int.mul_comm v b]
      omega
    · intro p hp
      rw [List.zip_cons_cons, List.mem_cons] at hp
      rcases hp with rfl | hp
      · exact ⟨by show 0 ≤ r - b; omega, by show r - b ≤ r; omega⟩
      · exact a4 p hp
    · intro p hp
      rw [List.zip_cons_cons, List.mem_cons] at hp
      rcases hp with rfl | hp
      · show r - b = 0 ∨ (tz vs rs d).2 - b * v < v
        by_cases c : (tz vs rs d).2 / v < r
        · rw [if_pos c] at hb
          right
          rw [← hb, Int.mul_comm]
          omega
        · rw [if_neg c] at hb
          left; omega
      · rcases a5 p hp with h1 | h1
        · exact .inl h1
        · right; omega
theorem zip_le_sum : ∀ (xs rs : List Int), xs.length = rs.length → (∀ p ∈ xs.zip rs, p.1 ≤ p.2) → xs.sum ≤ rs.sum
  | [], [], _, _ => Int.le_refl _
  | _ :: _, [], h, _ => by simp at h
  | [], _ :: _, h, _ => by simp at h
  | x :: xs, r :: rs, h, hp => by
    have h1 := hp (x, r) (by simp)
    have h2 := zip_le_sum xs rs (by simpa using h) fun p q => hp p (by simp [q])
    simp only [List.sum_cons]
    omega
/-! ### the promises -/
def sp_is_payment : FSp := fun ds S Q _ => ∃ (vs : List Int) (r : List D) (price : Int) (x : D), ds = [.tup (tI vs :: r), .int price, x] ∧ Vok vs ∧ KnT S x ∧ ∀ S', Ext S S' → Q (.bl (isPay vs price x)) S'
def sp__law_is_payment : FSp := sp_is_payment
def sp_idle_kinds : FSp := fun ds S Q _ => ∃ (vs : List Int) (r : List D) (price : Int) (rs : List Int), ds = [.tup (tI vs :: r), .int price, tI rs] ∧ Vok vs ∧ rs.length = vs.length ∧ ∀ S', Ext S S' → Q (tI (idle vs (worthZ vs rs - price) rs)) S'
def sp__law_idle : FSp := sp_idle_kinds
def isTight (vs : List Int) (price : Int) (x : D) : Bool := isPay vs price x && decide (idle vs (worthZ vs (rowOf x) - price) (rowOf x) = [])
def sp_is_tight : FSp := fun ds S Q _ => ∃ (vs : List Int) (r : List D) (price : Int) (x : D), ds = [.tup (tI vs :: r), .int price, x] ∧ Vok vs ∧ KnT S x ∧ ∀ S', Ext S S' → Q (.bl (isTight vs price x)) S'
def sp_tightened : FSp := fun ds S Q _ => ∃ (vs : List Int) (r : List D) (price : Int) (rs : List Int), ds = [.tup (tI vs :: r), .int price, tI rs] ∧ Vok vs ∧ rs.length = vs.length ∧ ∀ S', Ext S S' → Q (tI (tight vs rs price)) S'
def sp__law_tightened : FSp := sp_tightened
def sp_law : FSp := fun ds S Q _ => ∃ ns : List Int, ds = [.lw (ns.map D.int)] ∧ ∀ S', Q (.bl true) S'
end K43

set_option Elab.async false
set_option linter.all false
set_option maxRecDepth 100000
namespace K43
open PySem DL
abbrev d_is_integer := Ca.d_is_integer
abbrev d_are_all := Ca.d_are_all tab
abbrev d_are_integers := Ca.d_are_integers tab
abbrev d_kinds := Ca.d_kinds
abbrev d_is_row := Ca.d_is_row
abbrev d_worth := Ca.d_worth
def d_is_payment (EP : Exc → Sto → Prop) : DS :=
  (dRet (dAndV (dFn sp_is_row (xF EP) (dCons (dVar 0) (dCons (dVar 2) dNil))) (dAndV (dOp (dCmpI (fun i j => decide (i ≤ j))) (dCall dSum (dCons (dVar 2) dNil)) (dC (.int 20))) (dOp (dCmpI (fun i j => decide (j ≤ i))) (dFn sp_worth (xF EP) (dCons (dVar 0) (dCons (dVar 2) dNil))) (dVar 1)))))
def d_idle_kinds_1 (EP : Exc → Sto → Prop) : DS :=
  (dRet (dCall dTuple1 (dCons (dLc (iEnm (dCons (dVar 2) dNil)) (gTup 2 (gCons (gSet 4) (gCons (gSet 5) gNil))) (dAndT (dB (dOp (dCmpI (fun i j => decide (j < i))) (dVar 5) (dC (.int 0)))) (dB (dOp (dCmpI (fun i j => decide (i ≤ j))) (dOp dIx (dOp dIx (dVar 0) (dC (.int 0))) (dVar 4)) (dVar 3)))) (dVar 4) [4, 5]) dNil)))
def d_idle_kinds (EP : Exc → Sto → Prop) : DS :=
  (dSeq (dAsg (dOp dSub (dFn sp_worth (xF EP) (dCons (dVar 0) (dCons (dVar 2) dNil))) (dVar 1)) (gSet 3))
  (d_idle_kinds_1 EP))
def d_is_tight (EP : Exc → Sto → Prop) : DS :=
  (dRet (dAndV (dFn sp_is_payment (xF EP) (dCons (dVar 0) (dCons (dVar 1) (dCons (dVar 2) dNil)))) (dOp dEq (dFn sp_idle_kinds (xF EP) (dCons (dVar 0) (dCons (dVar 1) (dCons (dVar 2) dNil)))) (dTup dNil))))
def d_tightened_1 (EP : Exc → Sto → Prop) : DS :=
  (dAug (dI2 fun i j => i - j) 3 (dOp dMul (dVar 6) (dOp dIx (dOp dIx (dVar 0) (dC (.int 0))) (dVar 5))))
def d_tightened_2 (EP : Exc → Sto → Prop) : DS :=
  (dSeq (dAugS dIxL (dI2 fun i j => i - j) dSetL (dVar 4) (dVar 5) (dVar 6))
  (d_tightened_1 EP))
def d_tightened_3 (EP : Exc → Sto → Prop) : DS :=
  (dRet (dCall dTuple1 (dCons (dVar 4) dNil)))
def d_tightened_4 (EP : Exc → Sto → Prop) : DS :=
  (dSeq (dFor (iRng3 (dCons (dOp dSub (dCall dLen (dCons (dVar 4) dNil)) (dC (.int 1))) (dCons (dUn dNeg (dC (.int 1))) (dCons (dUn dNeg (dC (.int 1))) dNil)))) (gSet 5) (dSeq (dAsg (dCall dMin2 (dCons (dOp dIx (dVar 4) (dVar 5)) (dCons (dOp dFdiv (dVar 3) (dOp dIx (dOp dIx (dVar 0) (dC (.int 0))) (dVar 5))) dNil))) (gSet 6))
  (d_tightened_2 EP)))
  (d_tightened_3 EP))
def d_tightened (EP : Exc → Sto → Prop) : DS :=
  (dSeq (dPar 3 4 (dCons (dOp dSub (dFn sp_worth (xF EP) (dCons (dVar 0) (dCons (dVar 2) dNil))) (dVar 1)) (dCons (dCall dList1 (dCons (dVar 2) dNil)) dNil)))
  (d_tightened_4 EP))
abbrev d__law_is_int := Ca.d__law_is_int
abbrev d__law_is_row := Cb.d__law_is_row
abbrev d__law_worth := Ca.d__law_worth
abbrev d__law_bag := Cb.d__law_bag
abbrev d__law_take := Cb.d__law_take
abbrev d__law_some := Cc.d__law_some
abbrev d__law_mixed := Cc.d__law_mixed
abbrev d__law_coinage := Cc.d__law_coinage
abbrev d__law_row := Cc.d__law_row
abbrev d__law_alike := Cc.d__law_alike
abbrev d__law_below := Cb.d__law_below
def d__law_is_payment_1 (EP : Exc → Sto → Prop) : DS :=
  (dRet (dOp (dCmpI (fun i j => decide (j ≤ i))) (dFn sp__law_worth (xF EP) (dCons (dVar 0) (dCons (dVar 2) dNil))) (dVar 1)))
def d__law_is_payment (EP : Exc → Sto → Prop) : DS :=
  (dSeq (dIfS (dOrT (dNotT (dTru (dFn sp__law_is_row (xF EP) (dCons (dVar 0) (dCons (dVar 2) dNil))))) (dB (dOp (dCmpI (fun i j => decide (j < i))) (dCall dSum (dCons (dVar 2) dNil)) (dC (.int 20))))) (dRet (dC (.bl false))) dNext)
  (d__law_is_payment_1 EP))
def d__law_idle_1 (EP : Exc → Sto → Prop) : DS :=
  (dRet (dCall dTuple1 (dCons (dLc (iEnm (dCons (dVar 2) dNil)) (gTup 2 (gCons (gSet 4) (gCons (gSet 5) gNil))) (dAndT (dB (dOp (dCmpI (fun i j => decide (j < i))) (dVar 5) (dC (.int 0)))) (dB (dOp (dCmpI (fun i j => decide (i ≤ j))) (dOp dIx (dOp dIx (dVar 0) (dC (.int 0))) (dVar 4)) (dVar 3)))) (dVar 4) [4, 5]) dNil)))
def d__law_idle (EP : Exc → Sto → Prop) : DS :=
  (dSeq (dAsg (dOp dSub (dFn sp__law_worth (xF EP) (dCons (dVar 0) (dCons (dVar 2) dNil))) (dVar 1)) (gSet 3))
  (d__law_idle_1 EP))
def d__law_tightened_1 (EP : Exc → Sto → Prop) : DS :=
  (dAsg (dTup (dCons (dOp dSub (dOp dIx (dVar 4) (dVar 5)) (dVar 6)) (dCons (dOp dSub (dVar 3) (dOp dMul (dVar 6) (dOp dIx (dOp dIx (dVar 0) (dC (.int 0))) (dVar 5)))) dNil))) (gTup 2 (gCons (gSub dSetL (dVar 4) (dVar 5)) (gCons (gSet 3) gNil))))
def d__law_tightened_2 (EP : Exc → Sto → Prop) : DS :=
  (dRet (dCall dTuple1 (dCons (dVar 4) dNil)))
def d__law_tightened_3 (EP : Exc → Sto → Prop) : DS :=
  (dSeq (dFor (iRng3 (dCons (dOp dSub (dCall dLen (dCons (dVar 2) dNil)) (dC (.int 1))) (dCons (dUn dNeg (dC (.int 1))) (dCons (dUn dNeg (dC (.int 1))) dNil)))) (gSet 5) (dSeq (dAsg (dCall dMin2 (dCons (dOp dIx (dVar 4) (dVar 5)) (dCons (dCall dInt (dCons (dOp dFdiv (dVar 3) (dOp dIx (dOp dIx (dVar 0) (dC (.int 0))) (dVar 5))) dNil)) dNil))) (gSet 6))
  (d__law_tightened_1 EP)))
  (d__law_tightened_2 EP))
def d__law_tightened (EP : Exc → Sto → Prop) : DS :=
  (dSeq (dPar 3 4 (dCons (dOp dSub (dFn sp__law_worth (xF EP) (dCons (dVar 0) (dCons (dVar 2) dNil))) (dVar 1)) (dCons (dCall dList1 (dCons (dVar 2) dNil)) dNil)))
  (d__law_tightened_3 EP))
def d_law_1 (EP : Exc → Sto → Prop) : DS :=
  (dIfS (dOrT (dNotT (dTru (dFn sp__law_alike (xF EP) (dCons (dVar 14) (dCons (dLst (dCons (dVar 11) (dCons (dVar 13) dNil))) dNil))))) (dB (dOp dNe (dCall dRepr (dCons (dVar 3) dNil)) (dVar 5)))) (dRet (dC (.bl false))) dNext)
def d_law_2 (EP : Exc → Sto → Prop) : DS :=
  (dSeq (dAsg (dLst (dCons (dFn sp_is_payment (xF EP) (dCons (dVar 3) (dCons (dVar 6) (dCons (dVar 10) dNil)))) (dCons (dFn sp_is_tight (xF EP) (dCons (dVar 3) (dCons (dVar 6) (dCons (dVar 10) dNil)))) dNil))) (gSet 14))
  (d_law_1 EP))
def d_law_3 (EP : Exc → Sto → Prop) : DS :=
  (dIfS (dB (dOp dNe (dVar 13) (dOp dEq (dLc (iEnm (dCons (dVar 10) dNil)) (gTup 2 (gCons (gSet 17) (gCons (gSet 18) gNil))) (dAndT (dB (dOp (dCmpI (fun i j => decide (j < i))) (dVar 18) (dC (.int 0)))) (dB (dOp (dCmpI (fun i j => decide (i ≤ j))) (dOp dIx (dOp dIx (dVar 3) (dC (.int 0))) (dVar 17)) (dVar 16)))) (dC (.int 1)) [17, 18]) (dLst dNil)))) (dRet (dC (.bl false))) dNext)
def d_law_4 (EP : Exc → Sto → Prop) : DS :=
  (dSeq (dAsg (dOp dSub (dFn sp__law_worth (xF EP) (dCons (dVar 3) (dCons (dVar 10) dNil))) (dVar 6)) (gSet 16))
  (d_law_3 EP))
def d_law_5 (EP : Exc → Sto → Prop) : DS :=
  (dSeq (dIfS (dOrT (dB (dOp (dIs true) (dFn sp_is_tight (xF EP) (dCons (dVar 3) (dCons (dVar 6) (dCons (dVar 15) dNil)))) (dC (.bl true)))) (dNotT (dTru (dFn sp__law_below (xF EP) (dCons (dVar 15) (dCons (dVar 10) dNil)))))) (dRet (dC (.bl false))) dNext)
  (d_law_4 EP))
def d_law_6 (EP : Exc → Sto → Prop) : DS :=
  (dSeq (dIfS (dNotT (dTru (dFn sp__law_alike (xF EP) (dCons (dVar 14) (dCons (dLst (dCons (dFn sp__law_idle (xF EP) (dCons (dVar 3) (dCons (dVar 6) (dCons (dVar 10) dNil)))) (dCons (dVar 15) dNil))) dNil))))) (dRet (dC (.bl false))) dNext)
  (d_law_5 EP))
def d_law_7 (EP : Exc → Sto → Prop) : DS :=
  (dSeq (dAsg (dLst (dCons (dFn sp_idle_kinds (xF EP) (dCons (dVar 3) (dCons (dVar 6) (dCons (dVar 10) dNil)))) (dCons (dFn sp_tightened (xF EP) (dCons (dVar 3) (dCons (dVar 6) (dCons (dVar 10) dNil)))) dNil))) (gSet 14))
  (d_law_6 EP))
def d_law_8 (EP : Exc → Sto → Prop) : DS :=
  (dSeq (dAsg (dFn sp__law_tightened (xF EP) (dCons (dVar 3) (dCons (dVar 6) (dCons (dVar 10) dNil)))) (gSet 15))
  (d_law_7 EP))
def d_law_9 (EP : Exc → Sto → Prop) : DS :=
  (dSeq (dIfS (dNotT (dTru (dVar 11))) dCont dNext)
  (d_law_8 EP))
def d_law_10 (EP : Exc → Sto → Prop) : DS :=
  (dSeq (dFor (iRng1 (dCons (dC (.int 2)) dNil)) (gSet 12) (dSeq (dAsg (dAndV (dVar 11) (dOp dEq (dFn sp__law_idle (xF EP) (dCons (dVar 3) (dCons (dVar 6) (dCons (dVar 10) dNil)))) (dTup dNil))) (gSet 13))
  (d_law_2 EP)))
  (d_law_9 EP))
def d_law_11 (EP : Exc → Sto → Prop) : DS :=
  (dFor (iAny (dVar 7)) (gSet 10) (dSeq (dAsg (dFn sp__law_is_payment (xF EP) (dCons (dVar 3) (dCons (dVar 6) (dCons (dVar 10) dNil)))) (gSet 11))
  (d_law_10 EP)))
def d_law_12 (EP : Exc → Sto → Prop) : DS :=
  (dSeq (dFor (iAny (dTup (dCons (dUn dNeg (dC (.int 1))) (dCons (dC (.bl true)) (dCons (dC .non) (dCons (dC (.str "1")) (dCons (dOp dAdd (dOp dIx (dVar 4) (dVar 8)) (dC (.int 1))) (dCons (dC (.int 20)) (dCons (dC (.int 21)) dNil))))))))) (gSet 9) (dDrop (dBM "list" dAppend (dVar 7) (dCons (dOp dAdd (dOp dAdd (dSl dSlc (dVar 4) dNoPart (dPart (dVar 8))) (dTup (dCons (dVar 9) dNil))) (dSl dSlc (dVar 4) (dPart (dOp dAdd (dVar 8) (dC (.int 1)))) dNoPart)) dNil))))
  (d_law_11 EP))
def d_law_13 (EP : Exc → Sto → Prop) : DS :=
  (dSeq (dAsg (dFn sp__law_take (xF EP) (dCons (dVar 1) (dCons (dCall dLen (dCons (dVar 4) dNil)) dNil))) (gSet 8))
  (d_law_12 EP))
def d_law_14 (EP : Exc → Sto → Prop) : DS :=
  (dSeq (dAsg (dOp dAdd (dVar 7) (dLst (dCons (dOp dAdd (dVar 4) (dTup (dCons (dC (.int 0)) dNil))) (dCons (dSl dSlc (dVar 4) (dPart (dC (.int 1))) dNoPart) (dCons (dC (.str "0")) (dCons (dOp dAdd (dTup (dCons (dC (.int 21)) dNil)) (dSl dSlc (dVar 4) (dPart (dC (.int 1))) dNoPart)) (dCons (dOp dMul (dTup (dCons (dC (.int 20)) dNil)) (dCall dLen (dCons (dVar 4) dNil))) dNil))))))) (gSet 7))
  (d_law_13 EP))
def d_law_15 (EP : Exc → Sto → Prop) : DS :=
  (dSeq (dAsg (dLst (dCons (dVar 4) (dCons (dOp dMul (dTup (dCons (dC (.int 0)) dNil)) (dCall dLen (dCons (dVar 4) dNil))) (dCons (dC .non) (dCons (dTup dNil) (dCons (dCall dList1 (dCons (dVar 4) dNil)) dNil)))))) (gSet 7))
  (d_law_14 EP))
def d_law_16 (EP : Exc → Sto → Prop) : DS :=
  (dSeq (dAsg (dFn sp__law_some (xF EP) (dCons (dVar 1) (dCons (dLst (dCons (dC (.int 0)) (dCons (dFn sp__law_worth (xF EP) (dCons (dVar 3) (dCons (dVar 4) dNil))) (dCons (dFn sp__law_take (xF EP) (dCons (dVar 1) (dCons (dC (.int 40)) dNil))) (dCons (dFn sp__law_take (xF EP) (dCons (dVar 1) (dCons (dC (.int 100)) dNil))) (dCons (dC (.int 5000)) dNil)))))) dNil))) (gSet 6))
  (d_law_15 EP))
def d_law_17 (EP : Exc → Sto → Prop) : DS :=
  (dSeq (dPar 4 5 (dCons (dFn sp__law_row (xF EP) (dCons (dVar 1) (dCons (dVar 3) (dCons (dC (.int 5)) dNil)))) (dCons (dCall dRepr (dCons (dVar 3) dNil)) dNil)))
  (d_law_16 EP))
def d_law_18 (EP : Exc → Sto → Prop) : DS :=
  (dSeq (dFor (iRng1 (dCons (dC (.int 5)) dNil)) (gSet 2) (dSeq (dAsg (dFn sp__law_coinage (xF EP) (dCons (dVar 1) (dCons (dOp dAdd (dC (.int 1)) (dFn sp__law_take (xF EP) (dCons (dVar 1) (dCons (dC (.int 4)) dNil)))) (dCons (dC (.int 15)) (dCons (dC (.int 6)) dNil))))) (gSet 3))
  (d_law_17 EP)))
  (dRet (dC (.bl true))))
def d_law (EP : Exc → Sto → Prop) : DS :=
  (dSeq (dAsg (dFn sp__law_bag (xF EP) (dCons (dVar 0) dNil)) (gSet 1))
  (d_law_18 EP))
end K43

set_option Elab.async false
set_option linter.all false
set_option maxRecDepth 100000
set_option maxHeartbeats 4000000
namespace K43
open PySem DL L2 Ca Cb Cc
theorem len_is_integer : ∀ ds S P EP, sp_is_integer ds S P EP → ds.length = 1 := Ca.len_is_integer
theorem pure_is_integer : ∀ ds S Q EP, sp_is_integer ds S Q EP → d_is_integer EP { nx := fun _ S' => Q .non S', rt := Q } (startD 1 ds) S := Ca.pure_is_integer
theorem len_are_all : ∀ ds S P EP, sp_are_all ds S P EP → ds.length = 2 := Ca.len_are_all tab
theorem pure_are_all : ∀ ds S Q EP, sp_are_all ds S Q EP → d_are_all EP { nx := fun _ S' => Q .non S', rt := Q } (startD 3 ds) S := Ca.pure_are_all tab
theorem len_are_integers : ∀ ds S P EP, sp_are_integers ds S P EP → ds.length = 1 := Ca.len_are_integers
theorem pure_are_integers : ∀ ds S Q EP, sp_are_integers ds S Q EP → d_are_integers EP { nx := fun _ S' => Q .non S', rt := Q } (startD 1 ds) S := Ca.pure_are_integers tab rfl
theorem len_kinds : ∀ ds S P EP, sp_kinds ds S P EP → ds.length = 1 := Ca.len_kinds
theorem pure_kinds : ∀ ds S Q EP, sp_kinds ds S Q EP → d_kinds EP { nx := fun _ S' => Q .non S', rt := Q } (startD 1 ds) S := Ca.pure_kinds
theorem len_is_row : ∀ ds S P EP, sp_is_row ds S P EP → ds.length = 2 := Ca.len_is_row
theorem pure_is_row : ∀ ds S Q EP, sp_is_row ds S Q EP → d_is_row EP { nx := fun _ S' => Q .non S', rt := Q } (startD 3 ds) S := Ca.pure_is_row
theorem len_worth : ∀ ds S P EP, sp_worth ds S P EP → ds.length = 2 := Ca.len_worth
theorem pure_worth : ∀ ds S Q EP, sp_worth ds S Q EP → d_worth EP { nx := fun _ S' => Q .non S', rt := Q } (startD 4 ds) S := Ca.pure_worth
theorem len__law_is_int : ∀ ds S P EP, sp__law_is_int ds S P EP → ds.length = 1 := Ca.len__law_is_int
theorem pure__law_is_int : ∀ ds S Q EP, sp__law_is_int ds S Q EP → d__law_is_int EP { nx := fun _ S' => Q .non S', rt := Q } (startD 1 ds) S := Ca.pure__law_is_int
theorem len__law_is_row : ∀ ds S P EP, sp__law_is_row ds S P EP → ds.length = 2 := Cb.len__law_is_row
theorem pure__law_is_row : ∀ ds S Q EP, sp__law_is_row ds S Q EP → d__law_is_row EP { nx := fun _ S' => Q .non S', rt := Q } (startD 3 ds) S := Cb.pure__law_is_row
theorem len__law_worth : ∀ ds S P EP, sp__law_worth ds S P EP → ds.length = 2 := Ca.len__law_worth
theorem pure__law_worth : ∀ ds S Q EP, sp__law_worth ds S Q EP → d__law_worth EP { nx := fun _ S' => Q .non S', rt := Q } (startD 4 ds) S := Ca.pure__law_worth
theorem len__law_bag : ∀ ds S P EP, sp__law_bag ds S P EP → ds.length = 1 := Cb.len__law_bag
theorem pure__law_bag : ∀ ds S Q EP, sp__law_bag ds S Q EP → d__law_bag EP { nx := fun _ S' => Q .non S', rt := Q } (startD 2 ds) S := Cb.pure__law_bag
theorem len__law_take : ∀ ds S P EP, sp__law_take ds S P EP → ds.length = 2 := Cb.len__law_take
theorem pure__law_take : ∀ ds S Q EP, sp__law_take ds S Q EP → d__law_take EP { nx := fun _ S' => Q .non S', rt := Q } (startD 7 ds) S := Cb.pure__law_take
theorem len__law_some : ∀ ds S P EP, sp__law_some ds S P EP → ds.length = 2 := Cc.len__law_some
theorem pure__law_some : ∀ ds S Q EP, sp__law_some ds S Q EP → d__law_some EP { nx := fun _ S' => Q .non S', rt := Q } (startD 2 ds) S := Cc.pure__law_some
theorem len__law_mixed : ∀ ds S P EP, sp__law_mixed ds S P EP → ds.length = 2 := Cc.len__law_mixed
theorem pure__law_mixed : ∀ ds S Q EP, sp__law_mixed ds S Q EP → d__law_mixed EP { nx := fun _ S' => Q .non S', rt := Q } (startD 4 ds) S := Cc.pure__law_mixed
theorem len__law_coinage : ∀ ds S P EP, sp__law_coinage ds S P EP → ds.length = 4 := Cc.len__law_coinage
theorem pure__law_coinage : ∀ ds S Q EP, sp__law_coinage ds S Q EP → d__law_coinage EP { nx := fun _ S' => Q .non S', rt := Q } (startD 7 ds) S := Cc.pure__law_coinage
theorem len__law_row : ∀ ds S P EP, sp__law_row ds S P EP → ds.length = 3 := Cc.len__law_row
theorem pure__law_row : ∀ ds S Q EP, sp__law_row ds S Q EP → d__law_row EP { nx := fun _ S' => Q .non S', rt := Q } (startD 4 ds) S := Cc.pure__law_row
theorem len__law_alike : ∀ ds S P EP, sp__law_alike ds S P EP → ds.length = 2 := Cc.len__law_alike
theorem pure__law_alike : ∀ ds S Q EP, sp__law_alike ds S Q EP → d__law_alike EP { nx := fun _ S' => Q .non S', rt := Q } (startD 6 ds) S := Cc.pure__law_alike
theorem len__law_below : ∀ ds S P EP, sp__law_below ds S P EP → ds.length = 2 := Cb.len__law_below
theorem pure__law_below : ∀ ds S Q EP, sp__law_below ds S Q EP → d__law_below EP { nx := fun _ S' => Q .non S', rt := Q } (startD 4 ds) S := Cb.pure__law_below
theorem len_is_payment : ∀ ds S P EP, sp_is_payment ds S P EP → ds.length = 3 := by rintro _ S P EP ⟨vs, r, price, x, rfl, _⟩; rfl
theorem sq_tI {S : Sto} {ns : List Int} {P : List D → (Sto → Prop) → Prop} (h : P (ns.map D.int) (fun _ => True)) : sqD (tI ns) S P := h
theorem pure_is_payment : ∀ ds S Q EP, sp_is_payment ds S Q EP → d_is_payment EP { nx := fun _ S' => Q .non S', rt := Q } (startD 3 ds) S := by
  rintro ds S Q EP ⟨vs, r, price, x, rfl, hv, hk, h⟩
  unfold d_is_payment
  try simp only [DL.ap_dC, DL.ap_dVar, DL.ap_dNil, DL.ap_dCons, DL.ap_dTup, DL.ap_dLst, DL.ap_dOp, DL.ap_dB, DL.ap_dChain, DL.ap_dTru, DL.ap_dAndT, DL.ap_dOrT, DL.ap_dNotT, DL.ap_dAndV, DL.ap_dOrV, DL.ap_dNotV, DL.ap_dIf, DL.ap_dUn, DL.ap_dCall, DL.ap_dNoPart, DL.ap_dPart, DL.ap_dSl, DL.ap_dBM, DL.ap_dBM0, DL.ap_dFn, DL.ap_dLc, DL.ap_dYes, DL.ap_dRg1, DL.ap_dRg2, DL.ap_dLrg, DL.ap_dTrg, DL.ap_iAny, DL.ap_iRng1, DL.ap_iRng2, DL.ap_iRng3, DL.ap_rng1P, DL.ap_rng2P, DL.ap_rng3P, DL.ap_iZip, DL.ap_dLzip, DL.ap_dZ2, DL.ap_iEnm, DL.ap_a1, DL.ap_a2, DL.ap_sqT, DL.ap_sqR, DL.ap_dNext, DL.ap_dSeq, DL.ap_dBreak, DL.ap_dCont, DL.ap_dDrop, DL.ap_dRet, DL.ap_dRetN, DL.ap_dIfS, DL.ap_dAsg, DL.ap_dPar, DL.ap_a3, DL.ap_dPar3, DL.ap_dAug, DL.ap_dAugS, DL.ap_dFor, DL.ap_gSet, DL.ap_gTup, DL.ap_gNil, DL.ap_gCons, DL.ap_gSub, DL.tr_non, DL.tr_bl, DL.tr_int, DL.tr_str, DL.tr_tup, DL.tr_ref, DL.ad_int, DL.ad_tup, DL.ad_ref, DL.sb_int, DL.mu_int, DL.mu_tup, DL.mu_ref, DL.fd_int, DL.md_int, DL.pw_int, DL.ng_int, DL.i2_int, DL.ci_int, DL.is_bl, DL.is_nn, DL.is_in, DL.is_tn, DL.is_rn, DL.is_sn, DL.ix_tup, DL.ix_ref, DL.ixl_ref, DL.sl_tup, DL.sl_lw, DL.sl_ref, DL.st_ref, DL.ap_append, DL.ap_extend, DL.ap_popI, DL.ap_pop0, DL.ty_ref, DL.ln_tup, DL.ln_ref, DL.ab_int, DL.in_int, DL.in_bl, DL.mn_int, DL.mx_int, DL.sm_of, DL.al_ref, DL.an_ref, DL.li_of, DL.tu_of, DL.so_ref, DL.getV_0, DL.getV_s, DL.set_0, DL.set_s, DL.startD_nil, DL.startD_cons, DL.rep_0, DL.rep_s, DL.wipe_nil, DL.wipe_cons, DL.isB_bl, DL.isN_int, DL.someD_some, DL.at0, DL.at1, DL.at2, DL.at3, DL.at4, DL.at5, DL.up1_same, DL.up_up]
  refine ⟨_, r, x, rfl, hk, fun S1 h1 => ?_⟩
  rw [List.length_map]
  try simp only [DL.ap_dC, DL.ap_dVar, DL.ap_dNil, DL.ap_dCons, DL.ap_dTup, DL.ap_dLst, DL.ap_dOp, DL.ap_dB, DL.ap_dChain, DL.ap_dTru, DL.ap_dAndT, DL.ap_dOrT, DL.ap_dNotT, DL.ap_dAndV, DL.ap_dOrV, DL.ap_dNotV, DL.ap_dIf, DL.ap_dUn, DL.ap_dCall, DL.ap_dNoPart, DL.ap_dPart, DL.ap_dSl, DL.ap_dBM, DL.ap_dBM0, DL.ap_dFn, DL.ap_dLc, DL.ap_dYes, DL.ap_dRg1, DL.ap_dRg2, DL.ap_dLrg, DL.ap_dTrg, DL.ap_iAny, DL.ap_iRng1, DL.ap_iRng2, DL.ap_iRng3, DL.ap_rng1P, DL.ap_rng2P, DL.ap_rng3P, DL.ap_iZip, DL.ap_dLzip, DL.ap_dZ2, DL.ap_iEnm, DL.ap_a1, DL.ap_a2, DL.ap_sqT, DL.ap_sqR, DL.ap_dNext, DL.ap_dSeq, DL.ap_dBreak, DL.ap_dCont, DL.ap_dDrop, DL.ap_dRet, DL.ap_dRetN, DL.ap_dIfS, DL.ap_dAsg, DL.ap_dPar, DL.ap_a3, DL.ap_dPar3, DL.ap_dAug, DL.ap_dAugS, DL.ap_dFor, DL.ap_gSet, DL.ap_gTup, DL.ap_gNil, DL.ap_gCons, DL.ap_gSub, DL.tr_non, DL.tr_bl, DL.tr_int, DL.tr_str, DL.tr_tup, DL.tr_ref, DL.ad_int, DL.ad_tup, DL.ad_ref, DL.sb_int, DL.mu_int, DL.mu_tup, DL.mu_ref, DL.fd_int, DL.md_int, DL.pw_int, DL.ng_int, DL.i2_int, DL.ci_int, DL.is_bl, DL.is_nn, DL.is_in, DL.is_tn, DL.is_rn, DL.is_sn, DL.ix_tup, DL.ix_ref, DL.ixl_ref, DL.sl_tup, DL.sl_lw, DL.sl_ref, DL.st_ref, DL.ap_append, DL.ap_extend, DL.ap_popI, DL.ap_pop0, DL.ty_ref, DL.ln_tup, DL.ln_ref, DL.ab_int, DL.in_int, DL.in_bl, DL.mn_int, DL.mx_int, DL.sm_of, DL.al_ref, DL.an_ref, DL.li_of, DL.tu_of, DL.so_ref, DL.getV_0, DL.getV_s, DL.set_0, DL.set_s, DL.startD_nil, DL.startD_cons, DL.rep_0, DL.rep_s, DL.wipe_nil, DL.wipe_cons, DL.isB_bl, DL.isN_int, DL.someD_some, DL.at0, DL.at1, DL.at2, DL.at3, DL.at4, DL.at5, DL.up1_same, DL.up_up]
  by_cases c : isRow vs.length x = true
  · rw [if_pos c]
    obtain ⟨ns, rfl, hl, hn⟩ := isRow_inv c
    refine sq_tI ⟨ns, rfl, ?_⟩
    unfold isPay at h
    rw [c, Bool.true_and, rowOf_tI] at h
    try simp only [DL.ap_dC, DL.ap_dVar, DL.ap_dNil, DL.ap_dCons, DL.ap_dTup, DL.ap_dLst, DL.ap_dOp, DL.ap_dB, DL.ap_dChain, DL.ap_dTru, DL.ap_dAndT, DL.ap_dOrT, DL.ap_dNotT, DL.ap_dAndV, DL.ap_dOrV, DL.ap_dNotV, DL.ap_dIf, DL.ap_dUn, DL.ap_dCall, DL.ap_dNoPart, DL.ap_dPart, DL.ap_dSl, DL.ap_dBM, DL.ap_dBM0, DL.ap_dFn, DL.ap_dLc, DL.ap_dYes, DL.ap_dRg1, DL.ap_dRg2, DL.ap_dLrg, DL.ap_dTrg, DL.ap_iAny, DL.ap_iRng1, DL.ap_iRng2, DL.ap_iRng3, DL.ap_rng1P, DL.ap_rng2P, DL.ap_rng3P, DL.ap_iZip, DL.ap_dLzip, DL.ap_dZ2, DL.ap_iEnm, DL.ap_a1, DL.ap_a2, DL.ap_sqT, DL.ap_sqR, DL.ap_dNext, DL.ap_dSeq, DL.ap_dBreak, DL.ap_dCont, DL.ap_dDrop, DL.ap_dRet, DL.ap_dRetN, DL.ap_dIfS, DL.ap_dAsg, DL.ap_dPar, DL.ap_a3, DL.ap_dPar3, DL.ap_dAug, DL.ap_dAugS, DL.ap_dFor, DL.ap_gSet, DL.ap_gTup, DL.ap_gNil, DL.ap_gCons, DL.ap_gSub, DL.tr_non, DL.tr_bl, DL.tr_int, DL.tr_str, DL.tr_tup, DL.tr_ref, DL.ad_int, DL.ad_tup, DL.ad_ref, DL.sb_int, DL.mu_int, DL.mu_tup, DL.mu_ref, DL.fd_int, DL.md_int, DL.pw_int, DL.ng_int, DL.i2_int, DL.ci_int, DL.is_bl, DL.is_nn, DL.is_in, DL.is_tn, DL.is_rn, DL.is_sn, DL.ix_tup, DL.ix_ref, DL.ixl_ref, DL.sl_tup, DL.sl_lw, DL.sl_ref, DL.st_ref, DL.ap_append, DL.ap_extend, DL.ap_popI, DL.ap_pop0, DL.ty_ref, DL.ln_tup, DL.ln_ref, DL.ab_int, DL.in_int, DL.in_bl, DL.mn_int, DL.mx_int, DL.sm_of, DL.al_ref, DL.an_ref, DL.li_of, DL.tu_of, DL.so_ref, DL.getV_0, DL.getV_s, DL.set_0, DL.set_s, DL.startD_nil, DL.startD_cons, DL.rep_0, DL.rep_s, DL.wipe_nil, DL.wipe_cons, DL.isB_bl, DL.isN_int, DL.someD_some, DL.at0, DL.at1, DL.at2, DL.at3, DL.at4, DL.at5, DL.up1_same, DL.up_up]
    by_cases c2 : ns.sum ≤ 20
    · rw [if_pos (decide_eq_true c2)]
      rw [decide_eq_true c2, Bool.true_and] at h
      refine ⟨vs, ns, r, rfl, hv.sm, line (by have := hv.len; omega), fun S2 h2 => ?_⟩
      try simp only [DL.ap_dC, DL.ap_dVar, DL.ap_dNil, DL.ap_dCons, DL.ap_dTup, DL.ap_dLst, DL.ap_dOp, DL.ap_dB, DL.ap_dChain, DL.ap_dTru, DL.ap_dAndT, DL.ap_dOrT, DL.ap_dNotT, DL.ap_dAndV, DL.ap_dOrV, DL.ap_dNotV, DL.ap_dIf, DL.ap_dUn, DL.ap_dCall, DL.ap_dNoPart, DL.ap_dPart, DL.ap_dSl, DL.ap_dBM, DL.ap_dBM0, DL.ap_dFn, DL.ap_dLc, DL.ap_dYes, DL.ap_dRg1, DL.ap_dRg2, DL.ap_dLrg, DL.ap_dTrg, DL.ap_iAny, DL.ap_iRng1, DL.ap_iRng2, DL.ap_iRng3, DL.ap_rng1P, DL.ap_rng2P, DL.ap_rng3P, DL.ap_iZip, DL.ap_dLzip, DL.ap_dZ2, DL.ap_iEnm, DL.ap_a1, DL.ap_a2, DL.ap_sqT, DL.ap_sqR, DL.ap_dNext, DL.ap_dSeq, DL.ap_dBreak, DL.ap_dCont, DL.ap_dDrop, DL.ap_dRet, DL.ap_dRetN, DL.ap_dIfS, DL.ap_dAsg, DL.ap_dPar, DL.ap_a3, DL.ap_dPar3, DL.ap_dAug, DL.ap_dAugS, DL.ap_dFor, DL.ap_gSet, DL.ap_gTup, DL.ap_gNil, DL.ap_gCons, DL.ap_gSub, DL.tr_non, DL.tr_bl, DL.tr_int, DL.tr_str, DL.tr_tup, DL.tr_ref, DL.ad_int, DL.ad_tup, DL.ad_ref, DL.sb_int, DL.mu_int, DL.mu_tup, DL.mu_ref, DL.fd_int, DL.md_int, DL.pw_int, DL.ng_int, DL.i2_int, DL.ci_int, DL.is_bl, DL.is_nn, DL.is_in, DL.is_tn, DL.is_rn, DL.is_sn, DL.ix_tup, DL.ix_ref, DL.ixl_ref, DL.sl_tup, DL.sl_lw, DL.sl_ref, DL.st_ref, DL.ap_append, DL.ap_extend, DL.ap_popI, DL.ap_pop0, DL.ty_ref, DL.ln_tup, DL.ln_ref, DL.ab_int, DL.in_int, DL.in_bl, DL.mn_int, DL.mx_int, DL.sm_of, DL.al_ref, DL.an_ref, DL.li_of, DL.tu_of, DL.so_ref, DL.getV_0, DL.getV_s, DL.set_0, DL.set_s, DL.startD_nil, DL.startD_cons, DL.rep_0, DL.rep_s, DL.wipe_nil, DL.wipe_cons, DL.isB_bl, DL.isN_int, DL.someD_some, DL.at0, DL.at1, DL.at2, DL.at3, DL.at4, DL.at5, DL.up1_same, DL.up_up]
      exact h S2 (h1.trans h2)
    · rw [if_neg (by simpa using c2)]
      rw [decide_eq_false c2, Bool.false_and] at h
      rw [decide_eq_false c2]
      exact h S1 h1
  · rw [if_neg c]
    have c' : isRow vs.length x = false := by simpa using c
    unfold isPay at h
    rw [c', Bool.false_and] at h
    rw [c']
    exact h S1 h1
theorem len__law_is_payment : ∀ ds S P EP, sp__law_is_payment ds S P EP → ds.length = 3 := len_is_payment
theorem pure__law_is_payment : ∀ ds S Q EP, sp__law_is_payment ds S Q EP → d__law_is_payment EP { nx := fun _ S' => Q .non S', rt := Q } (startD 3 ds) S := by
  rintro ds S Q EP ⟨vs, r, price, x, rfl, hv, hk, h⟩
  unfold d__law_is_payment
  try simp only [DL.ap_dC, DL.ap_dVar, DL.ap_dNil, DL.ap_dCons, DL.ap_dTup, DL.ap_dLst, DL.ap_dOp, DL.ap_dB, DL.ap_dChain, DL.ap_dTru, DL.ap_dAndT, DL.ap_dOrT, DL.ap_dNotT, DL.ap_dAndV, DL.ap_dOrV, DL.ap_dNotV, DL.ap_dIf, DL.ap_dUn, DL.ap_dCall, DL.ap_dNoPart, DL.ap_dPart, DL.ap_dSl, DL.ap_dBM, DL.ap_dBM0, DL.ap_dFn, DL.ap_dLc, DL.ap_dYes, DL.ap_dRg1, DL.ap_dRg2, DL.ap_dLrg, DL.ap_dTrg, DL.ap_iAny, DL.ap_iRng1, DL.ap_iRng2, DL.ap_iRng3, DL.ap_rng1P, DL.ap_rng2P, DL.ap_rng3P, DL.ap_iZip, DL.ap_dLzip, DL.ap_dZ2, DL.ap_iEnm, DL.ap_a1, DL.ap_a2, DL.ap_sqT, DL.ap_sqR, DL.ap_dNext, DL.ap_dSeq, DL.ap_dBreak, DL.ap_dCont, DL.ap_dDrop, DL.ap_dRet, DL.ap_dRetN, DL.ap_dIfS, DL.ap_dAsg, DL.ap_dPar, DL.ap_a3, DL.ap_dPar3, DL.ap_dAug, DL.ap_dAugS, DL.ap_dFor, DL.ap_gSet, DL.ap_gTup, DL.ap_gNil, DL.ap_gCons, DL.ap_gSub, DL.tr_non, DL.tr_bl, DL.tr_int, DL.tr_str, DL.tr_tup, DL.tr_ref, DL.ad_int, DL.ad_tup, DL.ad_ref, DL.sb_int, DL.mu_int, DL.mu_tup, DL.mu_ref, DL.fd_int, DL.md_int, DL.pw_int, DL.ng_int, DL.i2_int, DL.ci_int, DL.is_bl, DL.is_nn, DL.is_in, DL.is_tn, DL.is_rn, DL.is_sn, DL.ix_tup, DL.ix_ref, DL.ixl_ref, DL.sl_tup, DL.sl_lw, DL.sl_ref, DL.st_ref, DL.ap_append, DL.ap_extend, DL.ap_popI, DL.ap_pop0, DL.ty_ref, DL.ln_tup, DL.ln_ref, DL.ab_int, DL.in_int, DL.in_bl, DL.mn_int, DL.mx_int, DL.sm_of, DL.al_ref, DL.an_ref, DL.li_of, DL.tu_of, DL.so_ref, DL.getV_0, DL.getV_s, DL.set_0, DL.set_s, DL.startD_nil, DL.startD_cons, DL.rep_0, DL.rep_s, DL.wipe_nil, DL.wipe_cons, DL.isB_bl, DL.isN_int, DL.someD_some, DL.at0, DL.at1, DL.at2, DL.at3, DL.at4, DL.at5, DL.up1_same, DL.up_up]
  refine ⟨_, r, x, rfl, hk, fun S1 h1 => ?_⟩
  rw [List.length_map]
  try simp only [DL.ap_dC, DL.ap_dVar, DL.ap_dNil, DL.ap_dCons, DL.ap_dTup, DL.ap_dLst, DL.ap_dOp, DL.ap_dB, DL.ap_dChain, DL.ap_dTru, DL.ap_dAndT, DL.ap_dOrT, DL.ap_dNotT, DL.ap_dAndV, DL.ap_dOrV, DL.ap_dNotV, DL.ap_dIf, DL.ap_dUn, DL.ap_dCall, DL.ap_dNoPart, DL.ap_dPart, DL.ap_dSl, DL.ap_dBM, DL.ap_dBM0, DL.ap_dFn, DL.ap_dLc, DL.ap_dYes, DL.ap_dRg1, DL.ap_dRg2, DL.ap_dLrg, DL.ap_dTrg, DL.ap_iAny, DL.ap_iRng1, DL.ap_iRng2, DL.ap_iRng3, DL.ap_rng1P, DL.ap_rng2P, DL.ap_rng3P, DL.ap_iZip, DL.ap_dLzip, DL.ap_dZ2, DL.ap_iEnm, DL.ap_a1, DL.ap_a2, DL.ap_sqT, DL.ap_sqR, DL.ap_dNext, DL.ap_dSeq, DL.ap_dBreak, DL.ap_dCont, DL.ap_dDrop, DL.ap_dRet, DL.ap_dRetN, DL.ap_dIfS, DL.ap_dAsg, DL.ap_dPar, DL.ap_a3, DL.ap_dPar3, DL.ap_dAug, DL.ap_dAugS, DL.ap_dFor, DL.ap_gSet, DL.ap_gTup, DL.ap_gNil, DL.ap_gCons, DL.ap_gSub, DL.tr_non, DL.tr_bl, DL.tr_int, DL.tr_str, DL.tr_tup, DL.tr_ref, DL.ad_int, DL.ad_tup, DL.ad_ref, DL.sb_int, DL.mu_int, DL.mu_tup, DL.mu_ref, DL.fd_int, DL.md_int, DL.pw_int, DL.ng_int, DL.i2_int, DL.ci_int, DL.is_bl, DL.is_nn, DL.is_in, DL.is_tn, DL.is_rn, DL.is_sn, DL.ix_tup, DL.ix_ref, DL.ixl_ref, DL.sl_tup, DL.sl_lw, DL.sl_ref, DL.st_ref, DL.ap_append, DL.ap_extend, DL.ap_popI, DL.ap_pop0, DL.ty_ref, DL.ln_tup, DL.ln_ref, DL.ab_int, DL.in_int, DL.in_bl, DL.mn_int, DL.mx_int, DL.sm_of, DL.al_ref, DL.an_ref, DL.li_of, DL.tu_of, DL.so_ref, DL.getV_0, DL.getV_s, DL.set_0, DL.set_s, DL.startD_nil, DL.startD_cons, DL.rep_0, DL.rep_s, DL.wipe_nil, DL.wipe_cons, DL.isB_bl, DL.isN_int, DL.someD_some, DL.at0, DL.at1, DL.at2, DL.at3, DL.at4, DL.at5, DL.up1_same, DL.up_up]
  by_cases c : isRow vs.length x = true
  · rw [c]
    simp only [Bool.not_true, Bool.false_eq_true, if_false]
    obtain ⟨ns, rfl, hl, hn⟩ := isRow_inv c
    refine sq_tI ⟨ns, rfl, ?_⟩
    unfold isPay at h
    rw [c, Bool.true_and, rowOf_tI] at h
    try simp only [DL.ap_dC, DL.ap_dVar, DL.ap_dNil, DL.ap_dCons, DL.ap_dTup, DL.ap_dLst, DL.ap_dOp, DL.ap_dB, DL.ap_dChain, DL.ap_dTru, DL.ap_dAndT, DL.ap_dOrT, DL.ap_dNotT, DL.ap_dAndV, DL.ap_dOrV, DL.ap_dNotV, DL.ap_dIf, DL.ap_dUn, DL.ap_dCall, DL.ap_dNoPart, DL.ap_dPart, DL.ap_dSl, DL.ap_dBM, DL.ap_dBM0, DL.ap_dFn, DL.ap_dLc, DL.ap_dYes, DL.ap_dRg1, DL.ap_dRg2, DL.ap_dLrg, DL.ap_dTrg, DL.ap_iAny, DL.ap_iRng1, DL.ap_iRng2, DL.ap_iRng3, DL.ap_rng1P, DL.ap_rng2P, DL.ap_rng3P, DL.ap_iZip, DL.ap_dLzip, DL.ap_dZ2, DL.ap_iEnm, DL.ap_a1, DL.ap_a2, DL.ap_sqT, DL.ap_sqR, DL.ap_dNext, DL.ap_dSeq, DL.ap_dBreak, DL.ap_dCont, DL.ap_dDrop, DL.ap_dRet, DL.ap_dRetN, DL.ap_dIfS, DL.ap_dAsg, DL.ap_dPar, DL.ap_a3, DL.ap_dPar3, DL.ap_dAug, DL.ap_dAugS, DL.ap_dFor, DL.ap_gSet, DL.ap_gTup, DL.ap_gNil, DL.ap_gCons, DL.ap_gSub, DL.tr_non, DL.tr_bl, DL.tr_int, DL.tr_str, DL.tr_tup, DL.tr_ref, DL.ad_int, DL.ad_tup, DL.ad_ref, DL.sb_int, DL.mu_int, DL.mu_tup, DL.mu_ref, DL.fd_int, DL.md_int, DL.pw_int, DL.ng_int, DL.i2_int, DL.ci_int, DL.is_bl, DL.is_nn, DL.is_in, DL.is_tn, DL.is_rn, DL.is_sn, DL.ix_tup, DL.ix_ref, DL.ixl_ref, DL.sl_tup, DL.sl_lw, DL.sl_ref, DL.st_ref, DL.ap_append, DL.ap_extend, DL.ap_popI, DL.ap_pop0, DL.ty_ref, DL.ln_tup, DL.ln_ref, DL.ab_int, DL.in_int, DL.in_bl, DL.mn_int, DL.mx_int, DL.sm_of, DL.al_ref, DL.an_ref, DL.li_of, DL.tu_of, DL.so_ref, DL.getV_0, DL.getV_s, DL.set_0, DL.set_s, DL.startD_nil, DL.startD_cons, DL.rep_0, DL.rep_s, DL.wipe_nil, DL.wipe_cons, DL.isB_bl, DL.isN_int, DL.someD_some, DL.at0, DL.at1, DL.at2, DL.at3, DL.at4, DL.at5, DL.up1_same, DL.up_up]
    by_cases c2 : ns.sum ≤ 20
    · rw [if_neg (by simp; omega)]
      rw [decide_eq_true c2, Bool.true_and] at h
      unfold d__law_is_payment_1
      try simp only [DL.ap_dC, DL.ap_dVar, DL.ap_dNil, DL.ap_dCons, DL.ap_dTup, DL.ap_dLst, DL.ap_dOp, DL.ap_dB, DL.ap_dChain, DL.ap_dTru, DL.ap_dAndT, DL.ap_dOrT, DL.ap_dNotT, DL.ap_dAndV, DL.ap_dOrV, DL.ap_dNotV, DL.ap_dIf, DL.ap_dUn, DL.ap_dCall, DL.ap_dNoPart, DL.ap_dPart, DL.ap_dSl, DL.ap_dBM, DL.ap_dBM0, DL.ap_dFn, DL.ap_dLc, DL.ap_dYes, DL.ap_dRg1, DL.ap_dRg2, DL.ap_dLrg, DL.ap_dTrg, DL.ap_iAny, DL.ap_iRng1, DL.ap_iRng2, DL.ap_iRng3, DL.ap_rng1P, DL.ap_rng2P, DL.ap_rng3P, DL.ap_iZip, DL.ap_dLzip, DL.ap_dZ2, DL.ap_iEnm, DL.ap_a1, DL.ap_a2, DL.ap_sqT, DL.ap_sqR, DL.ap_dNext, DL.ap_dSeq, DL.ap_dBreak, DL.ap_dCont, DL.ap_dDrop, DL.ap_dRet, DL.ap_dRetN, DL.ap_dIfS, DL.ap_dAsg, DL.ap_dPar, DL.ap_a3, DL.ap_dPar3, DL.ap_dAug, DL.ap_dAugS, DL.ap_dFor, DL.ap_gSet, DL.ap_gTup, DL.ap_gNil, DL.ap_gCons, DL.ap_gSub, DL.tr_non, DL.tr_bl, DL.tr_int, DL.tr_str, DL.tr_tup, DL.tr_ref, DL.ad_int, DL.ad_tup, DL.ad_ref, DL.sb_int, DL.mu_int, DL.mu_tup, DL.mu_ref, DL.fd_int, DL.md_int, DL.pw_int, DL.ng_int, DL.i2_int, DL.ci_int, DL.is_bl, DL.is_nn, DL.is_in, DL.is_tn, DL.is_rn, DL.is_sn, DL.ix_tup, DL.ix_ref, DL.ixl_ref, DL.sl_tup, DL.sl_lw, DL.sl_ref, DL.st_ref, DL.ap_append, DL.ap_extend, DL.ap_popI, DL.ap_pop0, DL.ty_ref, DL.ln_tup, DL.ln_ref, DL.ab_int, DL.in_int, DL.in_bl, DL.mn_int, DL.mx_int, DL.sm_of, DL.al_ref, DL.an_ref, DL.li_of, DL.tu_of, DL.so_ref, DL.getV_0, DL.getV_s, DL.set_0, DL.set_s, DL.startD_nil, DL.startD_cons, DL.rep_0, DL.rep_s, DL.wipe_nil, DL.wipe_cons, DL.isB_bl, DL.isN_int, DL.someD_some, DL.at0, DL.at1, DL.at2, DL.at3, DL.at4, DL.at5, DL.up1_same, DL.up_up]
      refine ⟨vs, ns, r, rfl, hv.sm, line (by have := hv.len; omega), fun S2 h2 => ?_⟩
      try simp only [DL.ap_dC, DL.ap_dVar, DL.ap_dNil, DL.ap_dCons, DL.ap_dTup, DL.ap_dLst, DL.ap_dOp, DL.ap_dB, DL.ap_dChain, DL.ap_dTru, DL.ap_dAndT, DL.ap_dOrT, DL.ap_dNotT, DL.ap_dAndV, DL.ap_dOrV, DL.ap_dNotV, DL.ap_dIf, DL.ap_dUn, DL.ap_dCall, DL.ap_dNoPart, DL.ap_dPart, DL.ap_dSl, DL.ap_dBM, DL.ap_dBM0, DL.ap_dFn, DL.ap_dLc, DL.ap_dYes, DL.ap_dRg1, DL.ap_dRg2, DL.ap_dLrg, DL.ap_dTrg, DL.ap_iAny, DL.ap_iRng1, DL.ap_iRng2, DL.ap_iRng3, DL.ap_rng1P, DL.ap_rng2P, DL.ap_rng3P, DL.ap_iZip, DL.ap_dLzip, DL.ap_dZ2, DL.ap_iEnm, DL.ap_a1, DL.ap_a2, DL.ap_sqT, DL.ap_sqR, DL.ap_dNext, DL.ap_dSeq, DL.ap_dBreak, DL.ap_dCont, DL.ap_dDrop, DL.ap_dRet, DL.ap_dRetN, DL.ap_dIfS, DL.ap_dAsg, DL.ap_dPar, DL.ap_a3, DL.ap_dPar3, DL.ap_dAug, DL.ap_dAugS, DL.ap_dFor, DL.ap_gSet, DL.ap_gTup, DL.ap_gNil, DL.ap_gCons, DL.ap_gSub, DL.tr_non, DL.tr_bl, DL.tr_int, DL.tr_str, DL.tr_tup, DL.tr_ref, DL.ad_int, DL.ad_tup, DL.ad_ref, DL.sb_int, DL.mu_int, DL.mu_tup, DL.mu_ref, DL.fd_int, DL.md_int, DL.pw_int, DL.ng_int, DL.i2_int, DL.ci_int, DL.is_bl, DL.is_nn, DL.is_in, DL.is_tn, DL.is_rn, DL.is_sn, DL.ix_tup, DL.ix_ref, DL.ixl_ref, DL.sl_tup, DL.sl_lw, DL.sl_ref, DL.st_ref, DL.ap_append, DL.ap_extend, DL.ap_popI, DL.ap_pop0, DL.ty_ref, DL.ln_tup, DL.ln_ref, DL.ab_int, DL.in_int, DL.in_bl, DL.mn_int, DL.mx_int, DL.sm_of, DL.al_ref, DL.an_ref, DL.li_of, DL.tu_of, DL.so_ref, DL.getV_0, DL.getV_s, DL.set_0, DL.set_s, DL.startD_nil, DL.startD_cons, DL.rep_0, DL.rep_s, DL.wipe_nil, DL.wipe_cons, DL.isB_bl, DL.isN_int, DL.someD_some, DL.at0, DL.at1, DL.at2, DL.at3, DL.at4, DL.at5, DL.up1_same, DL.up_up]
      exact h S2 (h1.trans h2)
    · rw [if_pos (by simp; omega)]
      rw [decide_eq_false c2, Bool.false_and] at h
      exact h S1 h1
  · have c' : isRow vs.length x = false := by simpa using c
    unfold isPay at h
    rw [c', Bool.false_and] at h
    rw [c']
    simp only [Bool.not_false, if_true]
    exact h S1 h1
def encE (q : Int × Nat) : D := .tup [.int ((q.2 : Nat) : Int), .int q.1]
theorem enumD_ints (rs : List Int) : enumD 0 (rs.map D.int) = rs.zipIdx.map encE := by
  unfold enumD
  refine List.ext_getElem? fun i => ?_
  rw [List.getElem?_mapIdx, List.getElem?_map, List.getElem?_map, List.getElem?_zipIdx]
  cases rs[i]? with
  | none => rfl
  | some n =>
    show some (D.tup [.int (0 + (i : Int)), .int n]) = some (D.tup [.int ((0 + i : Nat) : Int), .int n])
    rw [Int.zero_add, Nat.zero_add]
theorem mem_zi {rs : List Int} {q : Int × Nat} (h : q ∈ rs.zipIdx) : rs[q.2]? = some q.1 := by
  obtain ⟨x, i⟩ := q
  exact List.mem_zipIdx_iff_getElem?.mp h
theorem at_ints {vs : List Int} {i : Nat} (h : i < vs.length) : atI (vs.map D.int) ((i : Nat) : Int) = some (.int (vs.getD i 0)) := by
  refine atn ?_
  rw [List.getElem?_map, List.getElem?_eq_getElem h, List.getD_eq_getElem?_getD, List.getElem?_eq_getElem h]
  rfl
theorem len_idle_kinds : ∀ ds S P EP, sp_idle_kinds ds S P EP → ds.length = 3 := by rintro _ S P EP ⟨vs, r, price, rs, rfl, _⟩; rfl
theorem pure_idle_kinds : ∀ ds S Q EP, sp_idle_kinds ds S Q EP → d_idle_kinds EP { nx := fun _ S' => Q .non S', rt := Q } (startD 6 ds) S := by
  rintro ds S Q EP ⟨vs, r, price, rs, rfl, hv, hl, h⟩
  unfold d_idle_kinds
  try simp only [DL.ap_dC, DL.ap_dVar, DL.ap_dNil, DL.ap_dCons, DL.ap_dTup, DL.ap_dLst, DL.ap_dOp, DL.ap_dB, DL.ap_dChain, DL.ap_dTru, DL.ap_dAndT, DL.ap_dOrT, DL.ap_dNotT, DL.ap_dAndV, DL.ap_dOrV, DL.ap_dNotV, DL.ap_dIf, DL.ap_dUn, DL.ap_dCall, DL.ap_dNoPart, DL.ap_dPart, DL.ap_dSl, DL.ap_dBM, DL.ap_dBM0, DL.ap_dFn, DL.ap_dLc, DL.ap_dYes, DL.ap_dRg1, DL.ap_dRg2, DL.ap_dLrg, DL.ap_dTrg, DL.ap_iAny, DL.ap_iRng1, DL.ap_iRng2, DL.ap_iRng3, DL.ap_rng1P, DL.ap_rng2P, DL.ap_rng3P, DL.ap_iZip, DL.ap_dLzip, DL.ap_dZ2, DL.ap_iEnm, DL.ap_a1, DL.ap_a2, DL.ap_sqT, DL.ap_sqR, DL.ap_dNext, DL.ap_dSeq, DL.ap_dBreak, DL.ap_dCont, DL.ap_dDrop, DL.ap_dRet, DL.ap_dRetN, DL.ap_dIfS, DL.ap_dAsg, DL.ap_dPar, DL.ap_a3, DL.ap_dPar3, DL.ap_dAug, DL.ap_dAugS, DL.ap_dFor, DL.ap_gSet, DL.ap_gTup, DL.ap_gNil, DL.ap_gCons, DL.ap_gSub, DL.tr_non, DL.tr_bl, DL.tr_int, DL.tr_str, DL.tr_tup, DL.tr_ref, DL.ad_int, DL.ad_tup, DL.ad_ref, DL.sb_int, DL.mu_int, DL.mu_tup, DL.mu_ref, DL.fd_int, DL.md_int, DL.pw_int, DL.ng_int, DL.i2_int, DL.ci_int, DL.is_bl, DL.is_nn, DL.is_in, DL.is_tn, DL.is_rn, DL.is_sn, DL.ix_tup, DL.ix_ref, DL.ixl_ref, DL.sl_tup, DL.sl_lw, DL.sl_ref, DL.st_ref, DL.ap_append, DL.ap_extend, DL.ap_popI, DL.ap_pop0, DL.ty_ref, DL.ln_tup, DL.ln_ref, DL.ab_int, DL.in_int, DL.in_bl, DL.mn_int, DL.mx_int, DL.sm_of, DL.al_ref, DL.an_ref, DL.li_of, DL.tu_of, DL.so_ref, DL.getV_0, DL.getV_s, DL.set_0, DL.set_s, DL.startD_nil, DL.startD_cons, DL.rep_0, DL.rep_s, DL.wipe_nil, DL.wipe_cons, DL.isB_bl, DL.isN_int, DL.someD_some, DL.at0, DL.at1, DL.at2, DL.at3, DL.at4, DL.at5, DL.up1_same, DL.up_up]
  refine ⟨vs, rs, r, rfl, hv.sm, line (by have := hv.len; omega), fun S1 h1 => ?_⟩
  try simp only [DL.ap_dC, DL.ap_dVar, DL.ap_dNil, DL.ap_dCons, DL.ap_dTup, DL.ap_dLst, DL.ap_dOp, DL.ap_dB, DL.ap_dChain, DL.ap_dTru, DL.ap_dAndT, DL.ap_dOrT, DL.ap_dNotT, DL.ap_dAndV, DL.ap_dOrV, DL.ap_dNotV, DL.ap_dIf, DL.ap_dUn, DL.ap_dCall, DL.ap_dNoPart, DL.ap_dPart, DL.ap_dSl, DL.ap_dBM, DL.ap_dBM0, DL.ap_dFn, DL.ap_dLc, DL.ap_dYes, DL.ap_dRg1, DL.ap_dRg2, DL.ap_dLrg, DL.ap_dTrg, DL.ap_iAny, DL.ap_iRng1, DL.ap_iRng2, DL.ap_iRng3, DL.ap_rng1P, DL.ap_rng2P, DL.ap_rng3P, DL.ap_iZip, DL.ap_dLzip, DL.ap_dZ2, DL.ap_iEnm, DL.ap_a1, DL.ap_a2, DL.ap_sqT, DL.ap_sqR, DL.ap_dNext, DL.ap_dSeq, DL.ap_dBreak, DL.ap_dCont, DL.ap_dDrop, DL.ap_dRet, DL.ap_dRetN, DL.ap_dIfS, DL.ap_dAsg, DL.ap_dPar, DL.ap_a3, DL.ap_dPar3, DL.ap_dAug, DL.ap_dAugS, DL.ap_dFor, DL.ap_gSet, DL.ap_gTup, DL.ap_gNil, DL.ap_gCons, DL.ap_gSub, DL.tr_non, DL.tr_bl, DL.tr_int, DL.tr_str, DL.tr_tup, DL.tr_ref, DL.ad_int, DL.ad_tup, DL.ad_ref, DL.sb_int, DL.mu_int, DL.mu_tup, DL.mu_ref, DL.fd_int, DL.md_int, DL.pw_int, DL.ng_int, DL.i2_int, DL.ci_int, DL.is_bl, DL.is_nn, DL.is_in, DL.is_tn, DL.is_rn, DL.is_sn, DL.ix_tup, DL.ix_ref, DL.ixl_ref, DL.sl_tup, DL.sl_lw, DL.sl_ref, DL.st_ref, DL.ap_append, DL.ap_extend, DL.ap_popI, DL.ap_pop0, DL.ty_ref, DL.ln_tup, DL.ln_ref, DL.ab_int, DL.in_int, DL.in_bl, DL.mn_int, DL.mx_int, DL.sm_of, DL.al_ref, DL.an_ref, DL.li_of, DL.tu_of, DL.so_ref, DL.getV_0, DL.getV_s, DL.set_0, DL.set_s, DL.startD_nil, DL.startD_cons, DL.rep_0, DL.rep_s, DL.wipe_nil, DL.wipe_cons, DL.isB_bl, DL.isN_int, DL.someD_some, DL.at0, DL.at1, DL.at2, DL.at3, DL.at4, DL.at5, DL.up1_same, DL.up_up]
  unfold d_idle_kinds_1
  try simp only [DL.ap_dC, DL.ap_dVar, DL.ap_dNil, DL.ap_dCons, DL.ap_dTup, DL.ap_dLst, DL.ap_dOp, DL.ap_dB, DL.ap_dChain, DL.ap_dTru, DL.ap_dAndT, DL.ap_dOrT, DL.ap_dNotT, DL.ap_dAndV, DL.ap_dOrV, DL.ap_dNotV, DL.ap_dIf, DL.ap_dUn, DL.ap_dCall, DL.ap_dNoPart, DL.ap_dPart, DL.ap_dSl, DL.ap_dBM, DL.ap_dBM0, DL.ap_dFn, DL.ap_dLc, DL.ap_dYes, DL.ap_dRg1, DL.ap_dRg2, DL.ap_dLrg, DL.ap_dTrg, DL.ap_iAny, DL.ap_iRng1, DL.ap_iRng2, DL.ap_iRng3, DL.ap_rng1P, DL.ap_rng2P, DL.ap_rng3P, DL.ap_iZip, DL.ap_dLzip, DL.ap_dZ2, DL.ap_iEnm, DL.ap_a1, DL.ap_a2, DL.ap_sqT, DL.ap_sqR, DL.ap_dNext, DL.ap_dSeq, DL.ap_dBreak, DL.ap_dCont, DL.ap_dDrop, DL.ap_dRet, DL.ap_dRetN, DL.ap_dIfS, DL.ap_dAsg, DL.ap_dPar, DL.ap_a3, DL.ap_dPar3, DL.ap_dAug, DL.ap_dAugS, DL.ap_dFor, DL.ap_gSet, DL.ap_gTup, DL.ap_gNil, DL.ap_gCons, DL.ap_gSub, DL.tr_non, DL.tr_bl, DL.tr_int, DL.tr_str, DL.tr_tup, DL.tr_ref, DL.ad_int, DL.ad_tup, DL.ad_ref, DL.sb_int, DL.mu_int, DL.mu_tup, DL.mu_ref, DL.fd_int, DL.md_int, DL.pw_int, DL.ng_int, DL.i2_int, DL.ci_int, DL.is_bl, DL.is_nn, DL.is_in, DL.is_tn, DL.is_rn, DL.is_sn, DL.ix_tup, DL.ix_ref, DL.ixl_ref, DL.sl_tup, DL.sl_lw, DL.sl_ref, DL.st_ref, DL.ap_append, DL.ap_extend, DL.ap_popI, DL.ap_pop0, DL.ty_ref, DL.ln_tup, DL.ln_ref, DL.ab_int, DL.in_int, DL.in_bl, DL.mn_int, DL.mx_int, DL.sm_of, DL.al_ref, DL.an_ref, DL.li_of, DL.tu_of, DL.so_ref, DL.getV_0, DL.getV_s, DL.set_0, DL.set_s, DL.startD_nil, DL.startD_cons, DL.rep_0, DL.rep_s, DL.wipe_nil, DL.wipe_cons, DL.isB_bl, DL.isN_int, DL.someD_some, DL.at0, DL.at1, DL.at2, DL.at3, DL.at4, DL.at5, DL.up1_same, DL.up_up]
  rw [enumD_ints]
  refine ⟨by rw [List.length_map, List.length_zipIdx]; exact line (by have := hv.len; omega), lc_run encE (idleB vs (worthZ vs rs - price)) (fun q => D.int ((q.2 : Nat) : Int)) (fun S' => Ext S S') (fun _ _ => trivial) _ (fun q hq S2 Y N h2 hY hN => ?_) S1 _ h1 fun S2 h2 p hp => ?_⟩
  · have hi := mem_zi hq
    have hi2 : q.2 < vs.length := by rw [← hl]; exact (List.getElem?_eq_some_iff.mp hi).1
    unfold encE
    try simp only [DL.ap_dC, DL.ap_dVar, DL.ap_dNil, DL.ap_dCons, DL.ap_dTup, DL.ap_dLst, DL.ap_dOp, DL.ap_dB, DL.ap_dChain, DL.ap_dTru, DL.ap_dAndT, DL.ap_dOrT, DL.ap_dNotT, DL.ap_dAndV, DL.ap_dOrV, DL.ap_dNotV, DL.ap_dIf, DL.ap_dUn, DL.ap_dCall, DL.ap_dNoPart, DL.ap_dPart, DL.ap_dSl, DL.ap_dBM, DL.ap_dBM0, DL.ap_dFn, DL.ap_dLc, DL.ap_dYes, DL.ap_dRg1, DL.ap_dRg2, DL.ap_dLrg, DL.ap_dTrg, DL.ap_iAny, DL.ap_iRng1, DL.ap_iRng2, DL.ap_iRng3, DL.ap_rng1P, DL.ap_rng2P, DL.ap_rng3P, DL.ap_iZip, DL.ap_dLzip, DL.ap_dZ2, DL.ap_iEnm, DL.ap_a1, DL.ap_a2, DL.ap_sqT, DL.ap_sqR, DL.ap_dNext, DL.ap_dSeq, DL.ap_dBreak, DL.ap_dCont, DL.ap_dDrop, DL.ap_dRet, DL.ap_dRetN, DL.ap_dIfS, DL.ap_dAsg, DL.ap_dPar, DL.ap_a3, DL.ap_dPar3, DL.ap_dAug, DL.ap_dAugS, DL.ap_dFor, DL.ap_gSet, DL.ap_gTup, DL.ap_gNil, DL.ap_gCons, DL.ap_gSub, DL.tr_non, DL.tr_bl, DL.tr_int, DL.tr_str, DL.tr_tup, DL.tr_ref, DL.ad_int, DL.ad_tup, DL.ad_ref, DL.sb_int, DL.mu_int, DL.mu_tup, DL.mu_ref, DL.fd_int, DL.md_int, DL.pw_int, DL.ng_int, DL.i2_int, DL.ci_int, DL.is_bl, DL.is_nn, DL.is_in, DL.is_tn, DL.is_rn, DL.is_sn, DL.ix_tup, DL.ix_ref, DL.ixl_ref, DL.sl_tup, DL.sl_lw, DL.sl_ref, DL.st_ref, DL.ap_append, DL.ap_extend, DL.ap_popI, DL.ap_pop0, DL.ty_ref, DL.ln_tup, DL.ln_ref, DL.ab_int, DL.in_int, DL.in_bl, DL.mn_int, DL.mx_int, DL.sm_of, DL.al_ref, DL.an_ref, DL.li_of, DL.tu_of, DL.so_ref, DL.getV_0, DL.getV_s, DL.set_0, DL.set_s, DL.startD_nil, DL.startD_cons, DL.rep_0, DL.rep_s, DL.wipe_nil, DL.wipe_cons, DL.isB_bl, DL.isN_int, DL.someD_some, DL.at0, DL.at1, DL.at2, DL.at3, DL.at4, DL.at5, DL.up1_same, DL.up_up]
    refine ⟨rfl, ?_⟩
    rw [at_ints hi2]
    try simp only [DL.ap_dC, DL.ap_dVar, DL.ap_dNil, DL.ap_dCons, DL.ap_dTup, DL.ap_dLst, DL.ap_dOp, DL.ap_dB, DL.ap_dChain, DL.ap_dTru, DL.ap_dAndT, DL.ap_dOrT, DL.ap_dNotT, DL.ap_dAndV, DL.ap_dOrV, DL.ap_dNotV, DL.ap_dIf, DL.ap_dUn, DL.ap_dCall, DL.ap_dNoPart, DL.ap_dPart, DL.ap_dSl, DL.ap_dBM, DL.ap_dBM0, DL.ap_dFn, DL.ap_dLc, DL.ap_dYes, DL.ap_dRg1, DL.ap_dRg2, DL.ap_dLrg, DL.ap_dTrg, DL.ap_iAny, DL.ap_iRng1, DL.ap_iRng2, DL.ap_iRng3, DL.ap_rng1P, DL.ap_rng2P, DL.ap_rng3P, DL.ap_iZip, DL.ap_dLzip, DL.ap_dZ2, DL.ap_iEnm, DL.ap_a1, DL.ap_a2, DL.ap_sqT, DL.ap_sqR, DL.ap_dNext, DL.ap_dSeq, DL.ap_dBreak, DL.ap_dCont, DL.ap_dDrop, DL.ap_dRet, DL.ap_dRetN, DL.ap_dIfS, DL.ap_dAsg, DL.ap_dPar, DL.ap_a3, DL.ap_dPar3, DL.ap_dAug, DL.ap_dAugS, DL.ap_dFor, DL.ap_gSet, DL.ap_gTup, DL.ap_gNil, DL.ap_gCons, DL.ap_gSub, DL.tr_non, DL.tr_bl, DL.tr_int, DL.tr_str, DL.tr_tup, DL.tr_ref, DL.ad_int, DL.ad_tup, DL.ad_ref, DL.sb_int, DL.mu_int, DL.mu_tup, DL.mu_ref, DL.fd_int, DL.md_int, DL.pw_int, DL.ng_int, DL.i2_int, DL.ci_int, DL.is_bl, DL.is_nn, DL.is_in, DL.is_tn, DL.is_rn, DL.is_sn, DL.ix_tup, DL.ix_ref, DL.ixl_ref, DL.sl_tup, DL.sl_lw, DL.sl_ref, DL.st_ref, DL.ap_append, DL.ap_extend, DL.ap_popI, DL.ap_pop0, DL.ty_ref, DL.ln_tup, DL.ln_ref, DL.ab_int, DL.in_int, DL.in_bl, DL.mn_int, DL.mx_int, DL.sm_of, DL.al_ref, DL.an_ref, DL.li_of, DL.tu_of, DL.so_ref, DL.getV_0, DL.getV_s, DL.set_0, DL.set_s, DL.startD_nil, DL.startD_cons, DL.rep_0, DL.rep_s, DL.wipe_nil, DL.wipe_cons, DL.isB_bl, DL.isN_int, DL.someD_some, DL.at0, DL.at1, DL.at2, DL.at3, DL.at4, DL.at5, DL.up1_same, DL.up_up]
    by_cases c : 0 < q.1
    · rw [if_pos (decide_eq_true c)]
      by_cases c2 : vs.getD q.2 0 ≤ worthZ vs rs - price
      · rw [if_pos (decide_eq_true c2)]
        exact hY (by unfold idleB; rw [decide_eq_true c, decide_eq_true c2]; rfl) S2 h2
      · rw [if_neg (by simpa using c2)]
        exact hN (by unfold idleB; rw [decide_eq_true c, decide_eq_false c2]; rfl) S2 h2
    · rw [if_neg (by simpa using c)]
      rw [if_neg Bool.false_ne_true]
      exact hN (by unfold idleB; rw [decide_eq_false c]; rfl) S2 h2
  · refine lstAt_of up1_same ?_
    have e : (rs.zipIdx.filter (idleB vs (worthZ vs rs - price))).map (fun q => D.int ((q.2 : Nat) : Int)) = (idle vs (worthZ vs rs - price) rs).map D.int := by
      unfold idle
      rw [List.map_map]; rfl
    rw [e]
    exact h _ (h2.trans (Ext.new hp))
theorem len__law_idle : ∀ ds S P EP, sp__law_idle ds S P EP → ds.length = 3 := len_idle_kinds
theorem pure__law_idle : ∀ ds S Q EP, sp__law_idle ds S Q EP → d__law_idle EP { nx := fun _ S' => Q .non S', rt := Q } (startD 6 ds) S := pure_idle_kinds
theorem len_is_tight : ∀ ds S P EP, sp_is_tight ds S P EP → ds.length = 3 := by rintro _ S P EP ⟨vs, r, price, x, rfl, _⟩; rfl
theorem isPay_inv {vs : List Int} {price : Int} {x : D} (h : isPay vs price x = true) : ∃ rs, x = tI rs ∧ rs.length = vs.length ∧ (∀ i ∈ rs, 0 ≤ i) ∧ rs.sum ≤ 20 ∧ price ≤ worthZ vs rs := by
  unfold isPay at h
  rw [Bool.and_eq_true, Bool.and_eq_true] at h
  obtain ⟨rs, rfl, h1, h2⟩ := isRow_inv h.1
  rw [rowOf_tI] at h
  exact ⟨rs, rfl, h1, h2, of_decide_eq_true h.2.1, of_decide_eq_true h.2.2⟩
theorem pure_is_tight : ∀ ds S Q EP, sp_is_tight ds S Q EP → d_is_tight EP { nx := fun _ S' => Q .non S', rt := Q } (startD 3 ds) S := by
  rintro ds S Q EP ⟨vs, r, price, x, rfl, hv, hk, h⟩
  unfold d_is_tight
  try simp only [DL.ap_dC, DL.ap_dVar, DL.ap_dNil, DL.ap_dCons, DL.ap_dTup, DL.ap_dLst, DL.ap_dOp, DL.ap_dB, DL.ap_dChain, DL.ap_dTru, DL.ap_dAndT, DL.ap_dOrT, DL.ap_dNotT, DL.ap_dAndV, DL.ap_dOrV, DL.ap_dNotV, DL.ap_dIf, DL.ap_dUn, DL.ap_dCall, DL.ap_dNoPart, DL.ap_dPart, DL.ap_dSl, DL.ap_dBM, DL.ap_dBM0, DL.ap_dFn, DL.ap_dLc, DL.ap_dYes, DL.ap_dRg1, DL.ap_dRg2, DL.ap_dLrg, DL.ap_dTrg, DL.ap_iAny, DL.ap_iRng1, DL.ap_iRng2, DL.ap_iRng3, DL.ap_rng1P, DL.ap_rng2P, DL.ap_rng3P, DL.ap_iZip, DL.ap_dLzip, DL.ap_dZ2, DL.ap_iEnm, DL.ap_a1, DL.ap_a2, DL.ap_sqT, DL.ap_sqR, DL.ap_dNext, DL.ap_dSeq, DL.ap_dBreak, DL.ap_dCont, DL.ap_dDrop, DL.ap_dRet, DL.ap_dRetN, DL.ap_dIfS, DL.ap_dAsg, DL.ap_dPar, DL.ap_a3, DL.ap_dPar3, DL.ap_dAug, DL.ap_dAugS, DL.ap_dFor, DL.ap_gSet, DL.ap_gTup, DL.ap_gNil, DL.ap_gCons, DL.ap_gSub, DL.tr_non, DL.tr_bl, DL.tr_int, DL.tr_str, DL.tr_tup, DL.tr_ref, DL.ad_int, DL.ad_tup, DL.ad_ref, DL.sb_int, DL.mu_int, DL.mu_tup, DL.mu_ref, DL.fd_int, DL.md_int, DL.pw_int, DL.ng_int, DL.i2_int, DL.ci_int, DL.is_bl, DL.is_nn, DL.is_in, DL.is_tn, DL.is_rn, DL.is_sn, DL.ix_tup, DL.ix_ref, DL.ixl_ref, DL.sl_tup, DL.sl_lw, DL.sl_ref, DL.st_ref, DL.ap_append, DL.ap_extend, DL.ap_popI, DL.ap_pop0, DL.ty_ref, DL.ln_tup, DL.ln_ref, DL.ab_int, DL.in_int, DL.in_bl, DL.mn_int, DL.mx_int, DL.sm_of, DL.al_ref, DL.an_ref, DL.li_of, DL.tu_of, DL.so_ref, DL.getV_0, DL.getV_s, DL.set_0, DL.set_s, DL.startD_nil, DL.startD_cons, DL.rep_0, DL.rep_s, DL.wipe_nil, DL.wipe_cons, DL.isB_bl, DL.isN_int, DL.someD_some, DL.at0, DL.at1, DL.at2, DL.at3, DL.at4, DL.at5, DL.up1_same, DL.up_up]
  refine ⟨vs, r, price, x, rfl, hv, hk, fun S1 h1 => ?_⟩
  try simp only [DL.ap_dC, DL.ap_dVar, DL.ap_dNil, DL.ap_dCons, DL.ap_dTup, DL.ap_dLst, DL.ap_dOp, DL.ap_dB, DL.ap_dChain, DL.ap_dTru, DL.ap_dAndT, DL.ap_dOrT, DL.ap_dNotT, DL.ap_dAndV, DL.ap_dOrV, DL.ap_dNotV, DL.ap_dIf, DL.ap_dUn, DL.ap_dCall, DL.ap_dNoPart, DL.ap_dPart, DL.ap_dSl, DL.ap_dBM, DL.ap_dBM0, DL.ap_dFn, DL.ap_dLc, DL.ap_dYes, DL.ap_dRg1, DL.ap_dRg2, DL.ap_dLrg, DL.ap_dTrg, DL.ap_iAny, DL.ap_iRng1, DL.ap_iRng2, DL.ap_iRng3, DL.ap_rng1P, DL.ap_rng2P, DL.ap_rng3P, DL.ap_iZip, DL.ap_dLzip, DL.ap_dZ2, DL.ap_iEnm, DL.ap_a1, DL.ap_a2, DL.ap_sqT, DL.ap_sqR, DL.ap_dNext, DL.ap_dSeq, DL.ap_dBreak, DL.ap_dCont, DL.ap_dDrop, DL.ap_dRet, DL.ap_dRetN, DL.ap_dIfS, DL.ap_dAsg, DL.ap_dPar, DL.ap_a3, DL.ap_dPar3, DL.ap_dAug, DL.ap_dAugS, DL.ap_dFor, DL.ap_gSet, DL.ap_gTup, DL.ap_gNil, DL.ap_gCons, DL.ap_gSub, DL.tr_non, DL.tr_bl, DL.tr_int, DL.tr_str, DL.tr_tup, DL.tr_ref, DL.ad_int, DL.ad_tup, DL.ad_ref, DL.sb_int, DL.mu_int, DL.mu_tup, DL.mu_ref, DL.fd_int, DL.md_int, DL.pw_int, DL.ng_int, DL.i2_int, DL.ci_int, DL.is_bl, DL.is_nn, DL.is_in, DL.is_tn, DL.is_rn, DL.is_sn, DL.ix_tup, DL.ix_ref, DL.ixl_ref, DL.sl_tup, DL.sl_lw, DL.sl_ref, DL.st_ref, DL.ap_append, DL.ap_extend, DL.ap_popI, DL.ap_pop0, DL.ty_ref, DL.ln_tup, DL.ln_ref, DL.ab_int, DL.in_int, DL.in_bl, DL.mn_int, DL.mx_int, DL.sm_of, DL.al_ref, DL.an_ref, DL.li_of, DL.tu_of, DL.so_ref, DL.getV_0, DL.getV_s, DL.set_0, DL.set_s, DL.startD_nil, DL.startD_cons, DL.rep_0, DL.rep_s, DL.wipe_nil, DL.wipe_cons, DL.isB_bl, DL.isN_int, DL.someD_some, DL.at0, DL.at1, DL.at2, DL.at3, DL.at4, DL.at5, DL.up1_same, DL.up_up]
  by_cases c : isPay vs price x = true
  · rw [if_pos c]
    obtain ⟨rs, rfl, hl, hn, _⟩ := isPay_inv c
    refine ⟨vs, r, price, rs, rfl, hv, hl, fun S2 h2 => ?_⟩
    refine ⟨line (show 0 ≤ 1000000 by decide), eq_tI (ys := []) ?_⟩
    unfold isTight at h
    rw [c, Bool.true_and, rowOf_tI] at h
    exact h S2 (h1.trans h2)
  · rw [if_neg c]
    have c' : isPay vs price x = false := by simpa using c
    unfold isTight at h
    rw [c', Bool.false_and] at h
    rw [c']
    exact h S1 h1
/-! ### tightened: from the last kind down -/
theorem drop_ix {α : Type} {xs : List α} {i : Nat} (h : i < xs.length) : xs.drop i = xs[i] :: xs.drop (i + 1) := List.drop_eq_getElem_cons h
/-- the state before kind k (from above) is done -/
def tzF (vs rs : List Int) (d : Int) (k : Nat) : List Int := rs.take k ++ (tz (vs.drop k) (rs.drop k) d).1
def tzD (vs rs : List Int) (d : Int) (k : Nat) : Int := (tz (vs.drop k) (rs.drop k) d).2
def tzB (vs rs : List Int) (d : Int) (k : Nat) : Int := if tzD vs rs d (k + 1) / vs.getD k 0 < rs.getD k 0 then tzD vs rs d (k + 1) / vs.getD k 0 else rs.getD k 0
theorem tz_step {vs rs : List Int} {d : Int} {k : Nat} (h1 : k < vs.length) (h2 : k < rs.length) :
    tzF vs rs d k = (tzF vs rs d (k + 1)).set k (rs.getD k 0 - tzB vs rs d k) ∧ tzD vs rs d k = tzD vs rs d (k + 1) - tzB vs rs d k * vs.getD k 0 := by
  have ev : vs.getD k 0 = vs[k] := by rw [List.getD_eq_getElem?_getD, List.getElem?_eq_getElem h1]; rfl
  have er : rs.getD k 0 = rs[k] := by rw [List.getD_eq_getElem?_getD, List.getElem?_eq_getElem h2]; rfl
  unfold tzB tzF tzD
  rw [drop_ix h1, drop_ix h2, ev, er]
  refine ⟨?_, rfl⟩
  show rs.take k ++ ((rs[k] - _) :: _) = _
  have hk : (rs.take k).length = k := by rw [List.length_take]; omega
  rw [List.take_add_one, List.getElem?_eq_getElem h2]
  show _ = ((rs.take k ++ [rs[k]]) ++ _).set k _
  rw [List.append_assoc, List.set_append_right _ _ (by omega), hk, Nat.sub_self]
  rfl
theorem tzF_len {vs rs : List Int} {d : Int} {k : Nat} (h : rs.length = vs.length) (hk : k ≤ rs.length) : (tzF vs rs d k).length = rs.length := by
  unfold tzF
  rw [List.length_append, List.length_take, tz_len _ _ _ (by rw [List.length_drop, List.length_drop, h]), List.length_drop]
  omega
theorem tzF_at {vs rs : List Int} {d : Int} {k : Nat} (hk : k < rs.length) : (tzF vs rs d (k + 1))[k]? = some (rs.getD k 0) := by
  unfold tzF
  rw [List.getElem?_append_left (by rw [List.length_take]; omega), List.getElem?_take, if_pos (by omega), List.getD_eq_getElem?_getD, List.getElem?_eq_getElem hk]
  rfl
theorem tzF_top {vs rs : List Int} {d : Int} (h : rs.length = vs.length) : tzF vs rs d rs.length = rs ∧ tzD vs rs d rs.length = d := by
  unfold tzF tzD
  rw [List.take_length, List.drop_length, List.drop_eq_nil_of_le (by omega)]
  exact ⟨by simp [tz], rfl⟩
theorem tzF_bot {vs rs : List Int} {d : Int} : tzF vs rs d 0 = (tz vs rs d).1 := by unfold tzF; simp
theorem getD_mem {vs : List Int} {k : Nat} (h : k < vs.length) : vs.getD k 0 ∈ vs := by
  rw [List.getD_eq_getElem?_getD, List.getElem?_eq_getElem h]
  exact List.getElem_mem h
theorem set_map {ns : List Int} {k : Nat} {i : Int} : (ns.map D.int).set k (.int i) = (ns.set k i).map D.int := (List.map_set ..).symm
theorem down_items (n : Nat) : (List.range ((((n : Nat) : Int) - 1) - (-1)).toNat).map (fun k : Nat => D.int ((((n : Nat) : Int) - 1) - (k : Nat))) = (List.range n).map fun k : Nat => D.int ((((n : Nat) : Int) - 1) - (k : Nat)) := by
  rw [show ((((n : Nat) : Int) - 1) - (-1)).toNat = n by omega]
theorem len_tightened : ∀ ds S P EP, sp_tightened ds S P EP → ds.length = 3 := by rintro _ S P EP ⟨vs, r, price, rs, rfl, _⟩; rfl
theorem rng_at {n i j : Nat} (h : (List.range n)[i]? = some j) : j = i ∧ i < n := by
  have hl := (List.getElem?_eq_some_iff.mp h).1
  rw [List.length_range] at hl
  rw [List.getElem?_range hl] at h
  exact ⟨(Option.some.inj h).symm, hl⟩
theorem pure_tightened : ∀ ds S Q EP, sp_tightened ds S Q EP → d_tightened EP { nx := fun _ S' => Q .non S', rt := Q } (startD 7 ds) S := by
  rintro ds S Q EP ⟨vs, r, price, rs, rfl, hv, hl, h⟩
  unfold d_tightened
  try simp only [DL.ap_dC, DL.ap_dVar, DL.ap_dNil, DL.ap_dCons, DL.ap_dTup, DL.ap_dLst, DL.ap_dOp, DL.ap_dB, DL.ap_dChain, DL.ap_dTru, DL.ap_dAndT, DL.ap_dOrT, DL.ap_dNotT, DL.ap_dAndV, DL.ap_dOrV, DL.ap_dNotV, DL.ap_dIf, DL.ap_dUn, DL.ap_dCall, DL.ap_dNoPart, DL.ap_dPart, DL.ap_dSl, DL.ap_dBM, DL.ap_dBM0, DL.ap_dFn, DL.ap_dLc, DL.ap_dYes, DL.ap_dRg1, DL.ap_dRg2, DL.ap_dLrg, DL.ap_dTrg, DL.ap_iAny, DL.ap_iRng1, DL.ap_iRng2, DL.ap_iRng3, DL.ap_rng1P, DL.ap_rng2P, DL.ap_rng3P, DL.ap_iZip, DL.ap_dLzip, DL.ap_dZ2, DL.ap_iEnm, DL.ap_a1, DL.ap_a2, DL.ap_sqT, DL.ap_sqR, DL.ap_dNext, DL.ap_dSeq, DL.ap_dBreak, DL.ap_dCont, DL.ap_dDrop, DL.ap_dRet, DL.ap_dRetN, DL.ap_dIfS, DL.ap_dAsg, DL.ap_dPar, DL.ap_a3, DL.ap_dPar3, DL.ap_dAug, DL.ap_dAugS, DL.ap_dFor, DL.ap_gSet, DL.ap_gTup, DL.ap_gNil, DL.ap_gCons, DL.ap_gSub, DL.tr_non, DL.tr_bl, DL.tr_int, DL.tr_str, DL.tr_tup, DL.tr_ref, DL.ad_int, DL.ad_tup, DL.ad_ref, DL.sb_int, DL.mu_int, DL.mu_tup, DL.mu_ref, DL.fd_int, DL.md_int, DL.pw_int, DL.ng_int, DL.i2_int, DL.ci_int, DL.is_bl, DL.is_nn, DL.is_in, DL.is_tn, DL.is_rn, DL.is_sn, DL.ix_tup, DL.ix_ref, DL.ixl_ref, DL.sl_tup, DL.sl_lw, DL.sl_ref, DL.st_ref, DL.ap_append, DL.ap_extend, DL.ap_popI, DL.ap_pop0, DL.ty_ref, DL.ln_tup, DL.ln_ref, DL.ab_int, DL.in_int, DL.in_bl, DL.mn_int, DL.mx_int, DL.sm_of, DL.al_ref, DL.an_ref, DL.li_of, DL.tu_of, DL.so_ref, DL.getV_0, DL.getV_s, DL.set_0, DL.set_s, DL.startD_nil, DL.startD_cons, DL.rep_0, DL.rep_s, DL.wipe_nil, DL.wipe_cons, DL.isB_bl, DL.isN_int, DL.someD_some, DL.at0, DL.at1, DL.at2, DL.at3, DL.at4, DL.at5, DL.up1_same, DL.up_up]
  refine ⟨vs, rs, r, rfl, hv.sm, line (by have := hv.len; omega), fun S1 h1 => ?_⟩
  try simp only [DL.ap_dC, DL.ap_dVar, DL.ap_dNil, DL.ap_dCons, DL.ap_dTup, DL.ap_dLst, DL.ap_dOp, DL.ap_dB, DL.ap_dChain, DL.ap_dTru, DL.ap_dAndT, DL.ap_dOrT, DL.ap_dNotT, DL.ap_dAndV, DL.ap_dOrV, DL.ap_dNotV, DL.ap_dIf, DL.ap_dUn, DL.ap_dCall, DL.ap_dNoPart, DL.ap_dPart, DL.ap_dSl, DL.ap_dBM, DL.ap_dBM0, DL.ap_dFn, DL.ap_dLc, DL.ap_dYes, DL.ap_dRg1, DL.ap_dRg2, DL.ap_dLrg, DL.ap_dTrg, DL.ap_iAny, DL.ap_iRng1, DL.ap_iRng2, DL.ap_iRng3, DL.ap_rng1P, DL.ap_rng2P, DL.ap_rng3P, DL.ap_iZip, DL.ap_dLzip, DL.ap_dZ2, DL.ap_iEnm, DL.ap_a1, DL.ap_a2, DL.ap_sqT, DL.ap_sqR, DL.ap_dNext, DL.ap_dSeq, DL.ap_dBreak, DL.ap_dCont, DL.ap_dDrop, DL.ap_dRet, DL.ap_dRetN, DL.ap_dIfS, DL.ap_dAsg, DL.ap_dPar, DL.ap_a3, DL.ap_dPar3, DL.ap_dAug, DL.ap_dAugS, DL.ap_dFor, DL.ap_gSet, DL.ap_gTup, DL.ap_gNil, DL.ap_gCons, DL.ap_gSub, DL.tr_non, DL.tr_bl, DL.tr_int, DL.tr_str, DL.tr_tup, DL.tr_ref, DL.ad_int, DL.ad_tup, DL.ad_ref, DL.sb_int, DL.mu_int, DL.mu_tup, DL.mu_ref, DL.fd_int, DL.md_int, DL.pw_int, DL.ng_int, DL.i2_int, DL.ci_int, DL.is_bl, DL.is_nn, DL.is_in, DL.is_tn, DL.is_rn, DL.is_sn, DL.ix_tup, DL.ix_ref, DL.ixl_ref, DL.sl_tup, DL.sl_lw, DL.sl_ref, DL.st_ref, DL.ap_append, DL.ap_extend, DL.ap_popI, DL.ap_pop0, DL.ty_ref, DL.ln_tup, DL.ln_ref, DL.ab_int, DL.in_int, DL.in_bl, DL.mn_int, DL.mx_int, DL.sm_of, DL.al_ref, DL.an_ref, DL.li_of, DL.tu_of, DL.so_ref, DL.getV_0, DL.getV_s, DL.set_0, DL.set_s, DL.startD_nil, DL.startD_cons, DL.rep_0, DL.rep_s, DL.wipe_nil, DL.wipe_cons, DL.isB_bl, DL.isN_int, DL.someD_some, DL.at0, DL.at1, DL.at2, DL.at3, DL.at4, DL.at5, DL.up1_same, DL.up_up]
  (intro p n2; generalize eS_ : up1 _ p _ = S2; have e2 := Ext.new_eq eS_ n2; have f2 := up_eq eS_; clear eS_)
  have E2 := h1.trans e2
  unfold d_tightened_4
  try simp only [DL.ap_dC, DL.ap_dVar, DL.ap_dNil, DL.ap_dCons, DL.ap_dTup, DL.ap_dLst, DL.ap_dOp, DL.ap_dB, DL.ap_dChain, DL.ap_dTru, DL.ap_dAndT, DL.ap_dOrT, DL.ap_dNotT, DL.ap_dAndV, DL.ap_dOrV, DL.ap_dNotV, DL.ap_dIf, DL.ap_dUn, DL.ap_dCall, DL.ap_dNoPart, DL.ap_dPart, DL.ap_dSl, DL.ap_dBM, DL.ap_dBM0, DL.ap_dFn, DL.ap_dLc, DL.ap_dYes, DL.ap_dRg1, DL.ap_dRg2, DL.ap_dLrg, DL.ap_dTrg, DL.ap_iAny, DL.ap_iRng1, DL.ap_iRng2, DL.ap_iRng3, DL.ap_rng1P, DL.ap_rng2P, DL.ap_rng3P, DL.ap_iZip, DL.ap_dLzip, DL.ap_dZ2, DL.ap_iEnm, DL.ap_a1, DL.ap_a2, DL.ap_sqT, DL.ap_sqR, DL.ap_dNext, DL.ap_dSeq, DL.ap_dBreak, DL.ap_dCont, DL.ap_dDrop, DL.ap_dRet, DL.ap_dRetN, DL.ap_dIfS, DL.ap_dAsg, DL.ap_dPar, DL.ap_a3, DL.ap_dPar3, DL.ap_dAug, DL.ap_dAugS, DL.ap_dFor, DL.ap_gSet, DL.ap_gTup, DL.ap_gNil, DL.ap_gCons, DL.ap_gSub, DL.tr_non, DL.tr_bl, DL.tr_int, DL.tr_str, DL.tr_tup, DL.tr_ref, DL.ad_int, DL.ad_tup, DL.ad_ref, DL.sb_int, DL.mu_int, DL.mu_tup, DL.mu_ref, DL.fd_int, DL.md_int, DL.pw_int, DL.ng_int, DL.i2_int, DL.ci_int, DL.is_bl, DL.is_nn, DL.is_in, DL.is_tn, DL.is_rn, DL.is_sn, DL.ix_tup, DL.ix_ref, DL.ixl_ref, DL.sl_tup, DL.sl_lw, DL.sl_ref, DL.st_ref, DL.ap_append, DL.ap_extend, DL.ap_popI, DL.ap_pop0, DL.ty_ref, DL.ln_tup, DL.ln_ref, DL.ab_int, DL.in_int, DL.in_bl, DL.mn_int, DL.mx_int, DL.sm_of, DL.al_ref, DL.an_ref, DL.li_of, DL.tu_of, DL.so_ref, DL.getV_0, DL.getV_s, DL.set_0, DL.set_s, DL.startD_nil, DL.startD_cons, DL.rep_0, DL.rep_s, DL.wipe_nil, DL.wipe_cons, DL.isB_bl, DL.isN_int, DL.someD_some, DL.at0, DL.at1, DL.at2, DL.at3, DL.at4, DL.at5, DL.up1_same, DL.up_up]
  refine lstAt_of f2 ⟨by trivial, ⟨by rw [List.length_map]; have := hv.len; omega, by rw [List.length_map]; have := hv.len; omega, by decide, by decide⟩, ?_⟩
  rw [List.length_map, down_items]
  refine for_inv (fun k : Nat => D.int (((rs.length : Nat) : Int) - 1 - (k : Nat))) (List.range rs.length) (fun i ρ S' => ∃ o5 o6 : Option D, ρ = [some (.tup (tI vs :: r)), some (.int price), some (tI rs), some (.int (tzD vs rs (worthZ vs rs - price) (rs.length - i))), some (.ref p), o5, o6] ∧
    S' p = some (.lst ((tzF vs rs (worthZ vs rs - price) (rs.length - i)).map D.int)) ∧ Ext S S' ∧ S p = none) ?_ ?_ ?_
  · rintro i j hj ρ S3 K ⟨o5, o6, rfl, g1, g2, g3⟩ hK
    obtain ⟨rfl, hi⟩ := rng_at hj
    refine ⟨trivial, ?_⟩
    have ek : ((rs.length : Nat) : Int) - 1 - (j : Nat) = ((rs.length - (j + 1) : Nat) : Int) := by omega
    rw [ek]
    have e1 : rs.length - j = (rs.length - (j + 1)) + 1 := by omega
    generalize hk : rs.length - (j + 1) = k at *
    have hk1 : k < rs.length := by omega
    have hk2 : k < vs.length := by omega
    rw [e1] at g1 ⊢
    have vpos := hv.pos _ (getD_mem hk2)
    try simp only [DL.ap_dC, DL.ap_dVar, DL.ap_dNil, DL.ap_dCons, DL.ap_dTup, DL.ap_dLst, DL.ap_dOp, DL.ap_dB, DL.ap_dChain, DL.ap_dTru, DL.ap_dAndT, DL.ap_dOrT, DL.ap_dNotT, DL.ap_dAndV, DL.ap_dOrV, DL.ap_dNotV, DL.ap_dIf, DL.ap_dUn, DL.ap_dCall, DL.ap_dNoPart, DL.ap_dPart, DL.ap_dSl, DL.ap_dBM, DL.ap_dBM0, DL.ap_dFn, DL.ap_dLc, DL.ap_dYes, DL.ap_dRg1, DL.ap_dRg2, DL.ap_dLrg, DL.ap_dTrg, DL.ap_iAny, DL.ap_iRng1, DL.ap_iRng2, DL.ap_iRng3, DL.ap_rng1P, DL.ap_rng2P, DL.ap_rng3P, DL.ap_iZip, DL.ap_dLzip, DL.ap_dZ2, DL.ap_iEnm, DL.ap_a1, DL.ap_a2, DL.ap_sqT, DL.ap_sqR, DL.ap_dNext, DL.ap_dSeq, DL.ap_dBreak, DL.ap_dCont, DL.ap_dDrop, DL.ap_dRet, DL.ap_dRetN, DL.ap_dIfS, DL.ap_dAsg, DL.ap_dPar, DL.ap_a3, DL.ap_dPar3, DL.ap_dAug, DL.ap_dAugS, DL.ap_dFor, DL.ap_gSet, DL.ap_gTup, DL.ap_gNil, DL.ap_gCons, DL.ap_gSub, DL.tr_non, DL.tr_bl, DL.tr_int, DL.tr_str, DL.tr_tup, DL.tr_ref, DL.ad_int, DL.ad_tup, DL.ad_ref, DL.sb_int, DL.mu_int, DL.mu_tup, DL.mu_ref, DL.fd_int, DL.md_int, DL.pw_int, DL.ng_int, DL.i2_int, DL.ci_int, DL.is_bl, DL.is_nn, DL.is_in, DL.is_tn, DL.is_rn, DL.is_sn, DL.ix_tup, DL.ix_ref, DL.ixl_ref, DL.sl_tup, DL.sl_lw, DL.sl_ref, DL.st_ref, DL.ap_append, DL.ap_extend, DL.ap_popI, DL.ap_pop0, DL.ty_ref, DL.ln_tup, DL.ln_ref, DL.ab_int, DL.in_int, DL.in_bl, DL.mn_int, DL.mx_int, DL.sm_of, DL.al_ref, DL.an_ref, DL.li_of, DL.tu_of, DL.so_ref, DL.getV_0, DL.getV_s, DL.set_0, DL.set_s, DL.startD_nil, DL.startD_cons, DL.rep_0, DL.rep_s, DL.wipe_nil, DL.wipe_cons, DL.isB_bl, DL.isN_int, DL.someD_some, DL.at0, DL.at1, DL.at2, DL.at3, DL.at4, DL.at5, DL.up1_same, DL.up_up]
    refine lstAt_of g1 ?_
    rw [atn (by rw [List.getElem?_map, tzF_at hk1]; rfl), at_ints hk2]
    try simp only [DL.ap_dC, DL.ap_dVar, DL.ap_dNil, DL.ap_dCons, DL.ap_dTup, DL.ap_dLst, DL.ap_dOp, DL.ap_dB, DL.ap_dChain, DL.ap_dTru, DL.ap_dAndT, DL.ap_dOrT, DL.ap_dNotT, DL.ap_dAndV, DL.ap_dOrV, DL.ap_dNotV, DL.ap_dIf, DL.ap_dUn, DL.ap_dCall, DL.ap_dNoPart, DL.ap_dPart, DL.ap_dSl, DL.ap_dBM, DL.ap_dBM0, DL.ap_dFn, DL.ap_dLc, DL.ap_dYes, DL.ap_dRg1, DL.ap_dRg2, DL.ap_dLrg, DL.ap_dTrg, DL.ap_iAny, DL.ap_iRng1, DL.ap_iRng2, DL.ap_iRng3, DL.ap_rng1P, DL.ap_rng2P, DL.ap_rng3P, DL.ap_iZip, DL.ap_dLzip, DL.ap_dZ2, DL.ap_iEnm, DL.ap_a1, DL.ap_a2, DL.ap_sqT, DL.ap_sqR, DL.ap_dNext, DL.ap_dSeq, DL.ap_dBreak, DL.ap_dCont, DL.ap_dDrop, DL.ap_dRet, DL.ap_dRetN, DL.ap_dIfS, DL.ap_dAsg, DL.ap_dPar, DL.ap_a3, DL.ap_dPar3, DL.ap_dAug, DL.ap_dAugS, DL.ap_dFor, DL.ap_gSet, DL.ap_gTup, DL.ap_gNil, DL.ap_gCons, DL.ap_gSub, DL.tr_non, DL.tr_bl, DL.tr_int, DL.tr_str, DL.tr_tup, DL.tr_ref, DL.ad_int, DL.ad_tup, DL.ad_ref, DL.sb_int, DL.mu_int, DL.mu_tup, DL.mu_ref, DL.fd_int, DL.md_int, DL.pw_int, DL.ng_int, DL.i2_int, DL.ci_int, DL.is_bl, DL.is_nn, DL.is_in, DL.is_tn, DL.is_rn, DL.is_sn, DL.ix_tup, DL.ix_ref, DL.ixl_ref, DL.sl_tup, DL.sl_lw, DL.sl_ref, DL.st_ref, DL.ap_append, DL.ap_extend, DL.ap_popI, DL.ap_pop0, DL.ty_ref, DL.ln_tup, DL.ln_ref, DL.ab_int, DL.in_int, DL.in_bl, DL.mn_int, DL.mx_int, DL.sm_of, DL.al_ref, DL.an_ref, DL.li_of, DL.tu_of, DL.so_ref, DL.getV_0, DL.getV_s, DL.set_0, DL.set_s, DL.startD_nil, DL.startD_cons, DL.rep_0, DL.rep_s, DL.wipe_nil, DL.wipe_cons, DL.isB_bl, DL.isN_int, DL.someD_some, DL.at0, DL.at1, DL.at2, DL.at3, DL.at4, DL.at5, DL.up1_same, DL.up_up]
    refine ⟨div_ok (by omega) (by omega), ?_⟩
    unfold d_tightened_2
    try simp only [DL.ap_dC, DL.ap_dVar, DL.ap_dNil, DL.ap_dCons, DL.ap_dTup, DL.ap_dLst, DL.ap_dOp, DL.ap_dB, DL.ap_dChain, DL.ap_dTru, DL.ap_dAndT, DL.ap_dOrT, DL.ap_dNotT, DL.ap_dAndV, DL.ap_dOrV, DL.ap_dNotV, DL.ap_dIf, DL.ap_dUn, DL.ap_dCall, DL.ap_dNoPart, DL.ap_dPart, DL.ap_dSl, DL.ap_dBM, DL.ap_dBM0, DL.ap_dFn, DL.ap_dLc, DL.ap_dYes, DL.ap_dRg1, DL.ap_dRg2, DL.ap_dLrg, DL.ap_dTrg, DL.ap_iAny, DL.ap_iRng1, DL.ap_iRng2, DL.ap_iRng3, DL.ap_rng1P, DL.ap_rng2P, DL.ap_rng3P, DL.ap_iZip, DL.ap_dLzip, DL.ap_dZ2, DL.ap_iEnm, DL.ap_a1, DL.ap_a2, DL.ap_sqT, DL.ap_sqR, DL.ap_dNext, DL.ap_dSeq, DL.ap_dBreak, DL.ap_dCont, DL.ap_dDrop, DL.ap_dRet, DL.ap_dRetN, DL.ap_dIfS, DL.ap_dAsg, DL.ap_dPar, DL.ap_a3, DL.ap_dPar3, DL.ap_dAug, DL.ap_dAugS, DL.ap_dFor, DL.ap_gSet, DL.ap_gTup, DL.ap_gNil, DL.ap_gCons, DL.ap_gSub, DL.tr_non, DL.tr_bl, DL.tr_int, DL.tr_str, DL.tr_tup, DL.tr_ref, DL.ad_int, DL.ad_tup, DL.ad_ref, DL.sb_int, DL.mu_int, DL.mu_tup, DL.mu_ref, DL.fd_int, DL.md_int, DL.pw_int, DL.ng_int, DL.i2_int, DL.ci_int, DL.is_bl, DL.is_nn, DL.is_in, DL.is_tn, DL.is_rn, DL.is_sn, DL.ix_tup, DL.ix_ref, DL.ixl_ref, DL.sl_tup, DL.sl_lw, DL.sl_ref, DL.st_ref, DL.ap_append, DL.ap_extend, DL.ap_popI, DL.ap_pop0, DL.ty_ref, DL.ln_tup, DL.ln_ref, DL.ab_int, DL.in_int, DL.in_bl, DL.mn_int, DL.mx_int, DL.sm_of, DL.al_ref, DL.an_ref, DL.li_of, DL.tu_of, DL.so_ref, DL.getV_0, DL.getV_s, DL.set_0, DL.set_s, DL.startD_nil, DL.startD_cons, DL.rep_0, DL.rep_s, DL.wipe_nil, DL.wipe_cons, DL.isB_bl, DL.isN_int, DL.someD_some, DL.at0, DL.at1, DL.at2, DL.at3, DL.at4, DL.at5, DL.up1_same, DL.up_up]
    refine lstAt_of g1 ?_
    rw [atn (by rw [List.getElem?_map, tzF_at hk1]; rfl)]
    try simp only [DL.ap_dC, DL.ap_dVar, DL.ap_dNil, DL.ap_dCons, DL.ap_dTup, DL.ap_dLst, DL.ap_dOp, DL.ap_dB, DL.ap_dChain, DL.ap_dTru, DL.ap_dAndT, DL.ap_dOrT, DL.ap_dNotT, DL.ap_dAndV, DL.ap_dOrV, DL.ap_dNotV, DL.ap_dIf, DL.ap_dUn, DL.ap_dCall, DL.ap_dNoPart, DL.ap_dPart, DL.ap_dSl, DL.ap_dBM, DL.ap_dBM0, DL.ap_dFn, DL.ap_dLc, DL.ap_dYes, DL.ap_dRg1, DL.ap_dRg2, DL.ap_dLrg, DL.ap_dTrg, DL.ap_iAny, DL.ap_iRng1, DL.ap_iRng2, DL.ap_iRng3, DL.ap_rng1P, DL.ap_rng2P, DL.ap_rng3P, DL.ap_iZip, DL.ap_dLzip, DL.ap_dZ2, DL.ap_iEnm, DL.ap_a1, DL.ap_a2, DL.ap_sqT, DL.ap_sqR, DL.ap_dNext, DL.ap_dSeq, DL.ap_dBreak, DL.ap_dCont, DL.ap_dDrop, DL.ap_dRet, DL.ap_dRetN, DL.ap_dIfS, DL.ap_dAsg, DL.ap_dPar, DL.ap_a3, DL.ap_dPar3, DL.ap_dAug, DL.ap_dAugS, DL.ap_dFor, DL.ap_gSet, DL.ap_gTup, DL.ap_gNil, DL.ap_gCons, DL.ap_gSub, DL.tr_non, DL.tr_bl, DL.tr_int, DL.tr_str, DL.tr_tup, DL.tr_ref, DL.ad_int, DL.ad_tup, DL.ad_ref, DL.sb_int, DL.mu_int, DL.mu_tup, DL.mu_ref, DL.fd_int, DL.md_int, DL.pw_int, DL.ng_int, DL.i2_int, DL.ci_int, DL.is_bl, DL.is_nn, DL.is_in, DL.is_tn, DL.is_rn, DL.is_sn, DL.ix_tup, DL.ix_ref, DL.ixl_ref, DL.sl_tup, DL.sl_lw, DL.sl_ref, DL.st_ref, DL.ap_append, DL.ap_extend, DL.ap_popI, DL.ap_pop0, DL.ty_ref, DL.ln_tup, DL.ln_ref, DL.ab_int, DL.in_int, DL.in_bl, DL.mn_int, DL.mx_int, DL.sm_of, DL.al_ref, DL.an_ref, DL.li_of, DL.tu_of, DL.so_ref, DL.getV_0, DL.getV_s, DL.set_0, DL.set_s, DL.startD_nil, DL.startD_cons, DL.rep_0, DL.rep_s, DL.wipe_nil, DL.wipe_cons, DL.isB_bl, DL.isN_int, DL.someD_some, DL.at0, DL.at1, DL.at2, DL.at3, DL.at4, DL.at5, DL.up1_same, DL.up_up]
    refine lstAt_of g1 ?_
    rw [ixn (by rw [List.length_map, tzF_len hl (by omega)]; exact hk1)]
    unfold d_tightened_1
    try simp only [DL.ap_dC, DL.ap_dVar, DL.ap_dNil, DL.ap_dCons, DL.ap_dTup, DL.ap_dLst, DL.ap_dOp, DL.ap_dB, DL.ap_dChain, DL.ap_dTru, DL.ap_dAndT, DL.ap_dOrT, DL.ap_dNotT, DL.ap_dAndV, DL.ap_dOrV, DL.ap_dNotV, DL.ap_dIf, DL.ap_dUn, DL.ap_dCall, DL.ap_dNoPart, DL.ap_dPart, DL.ap_dSl, DL.ap_dBM, DL.ap_dBM0, DL.ap_dFn, DL.ap_dLc, DL.ap_dYes, DL.ap_dRg1, DL.ap_dRg2, DL.ap_dLrg, DL.ap_dTrg, DL.ap_iAny, DL.ap_iRng1, DL.ap_iRng2, DL.ap_iRng3, DL.ap_rng1P, DL.ap_rng2P, DL.ap_rng3P, DL.ap_iZip, DL.ap_dLzip, DL.ap_dZ2, DL.ap_iEnm, DL.ap_a1, DL.ap_a2, DL.ap_sqT, DL.ap_sqR, DL.ap_dNext, DL.ap_dSeq, DL.ap_dBreak, DL.ap_dCont, DL.ap_dDrop, DL.ap_dRet, DL.ap_dRetN, DL.ap_dIfS, DL.ap_dAsg, DL.ap_dPar, DL.ap_a3, DL.ap_dPar3, DL.ap_dAug, DL.ap_dAugS, DL.ap_dFor, DL.ap_gSet, DL.ap_gTup, DL.ap_gNil, DL.ap_gCons, DL.ap_gSub, DL.tr_non, DL.tr_bl, DL.tr_int, DL.tr_str, DL.tr_tup, DL.tr_ref, DL.ad_int, DL.ad_tup, DL.ad_ref, DL.sb_int, DL.mu_int, DL.mu_tup, DL.mu_ref, DL.fd_int, DL.md_int, DL.pw_int, DL.ng_int, DL.i2_int, DL.ci_int, DL.is_bl, DL.is_nn, DL.is_in, DL.is_tn, DL.is_rn, DL.is_sn, DL.ix_tup, DL.ix_ref, DL.ixl_ref, DL.sl_tup, DL.sl_lw, DL.sl_ref, DL.st_ref, DL.ap_append, DL.ap_extend, DL.ap_popI, DL.ap_pop0, DL.ty_ref, DL.ln_tup, DL.ln_ref, DL.ab_int, DL.in_int, DL.in_bl, DL.mn_int, DL.mx_int, DL.sm_of, DL.al_ref, DL.an_ref, DL.li_of, DL.tu_of, DL.so_ref, DL.getV_0, DL.getV_s, DL.set_0, DL.set_s, DL.startD_nil, DL.startD_cons, DL.rep_0, DL.rep_s, DL.wipe_nil, DL.wipe_cons, DL.isB_bl, DL.isN_int, DL.someD_some, DL.at0, DL.at1, DL.at2, DL.at3, DL.at4, DL.at5, DL.up1_same, DL.up_up]
    rw [at_ints hk2]
    try simp only [DL.ap_dC, DL.ap_dVar, DL.ap_dNil, DL.ap_dCons, DL.ap_dTup, DL.ap_dLst, DL.ap_dOp, DL.ap_dB, DL.ap_dChain, DL.ap_dTru, DL.ap_dAndT, DL.ap_dOrT, DL.ap_dNotT, DL.ap_dAndV, DL.ap_dOrV, DL.ap_dNotV, DL.ap_dIf, DL.ap_dUn, DL.ap_dCall, DL.ap_dNoPart, DL.ap_dPart, DL.ap_dSl, DL.ap_dBM, DL.ap_dBM0, DL.ap_dFn, DL.ap_dLc, DL.ap_dYes, DL.ap_dRg1, DL.ap_dRg2, DL.ap_dLrg, DL.ap_dTrg, DL.ap_iAny, DL.ap_iRng1, DL.ap_iRng2, DL.ap_iRng3, DL.ap_rng1P, DL.ap_rng2P, DL.ap_rng3P, DL.ap_iZip, DL.ap_dLzip, DL.ap_dZ2, DL.ap_iEnm, DL.ap_a1, DL.ap_a2, DL.ap_sqT, DL.ap_sqR, DL.ap_dNext, DL.ap_dSeq, DL.ap_dBreak, DL.ap_dCont, DL.ap_dDrop, DL.ap_dRet, DL.ap_dRetN, DL.ap_dIfS, DL.ap_dAsg, DL.ap_dPar, DL.ap_a3, DL.ap_dPar3, DL.ap_dAug, DL.ap_dAugS, DL.ap_dFor, DL.ap_gSet, DL.ap_gTup, DL.ap_gNil, DL.ap_gCons, DL.ap_gSub, DL.tr_non, DL.tr_bl, DL.tr_int, DL.tr_str, DL.tr_tup, DL.tr_ref, DL.ad_int, DL.ad_tup, DL.ad_ref, DL.sb_int, DL.mu_int, DL.mu_tup, DL.mu_ref, DL.fd_int, DL.md_int, DL.pw_int, DL.ng_int, DL.i2_int, DL.ci_int, DL.is_bl, DL.is_nn, DL.is_in, DL.is_tn, DL.is_rn, DL.is_sn, DL.ix_tup, DL.ix_ref, DL.ixl_ref, DL.sl_tup, DL.sl_lw, DL.sl_ref, DL.st_ref, DL.ap_append, DL.ap_extend, DL.ap_popI, DL.ap_pop0, DL.ty_ref, DL.ln_tup, DL.ln_ref, DL.ab_int, DL.in_int, DL.in_bl, DL.mn_int, DL.mx_int, DL.sm_of, DL.al_ref, DL.an_ref, DL.li_of, DL.tu_of, DL.so_ref, DL.getV_0, DL.getV_s, DL.set_0, DL.set_s, DL.startD_nil, DL.startD_cons, DL.rep_0, DL.rep_s, DL.wipe_nil, DL.wipe_cons, DL.isB_bl, DL.isN_int, DL.someD_some, DL.at0, DL.at1, DL.at2, DL.at3, DL.at4, DL.at5, DL.up1_same, DL.up_up]
    refine ⟨small_mul' (by omega) (by omega), hK _ _ ?_⟩
    obtain ⟨s1, s2⟩ := tz_step (d := worthZ vs rs - price) hk2 hk1
    refine ⟨some (.int ((k : Nat) : Int)), some (.int (tzB vs rs (worthZ vs rs - price) k)), ?_, ?_, ?_, g3⟩
    · rw [s2]; rfl
    · rw [up1_same, set_map, s1]; rfl
    · exact fun b c hb => by rw [up1_ne (ne_new hb g3)]; exact g2 b c hb
  · rintro ρ S3 ⟨o5, o6, rfl, g1, g2, g3⟩
    refine ⟨trivial, ?_⟩
    rw [List.length_range, Nat.sub_self, tzF_bot] at g1
    unfold d_tightened_3
    try simp only [DL.ap_dC, DL.ap_dVar, DL.ap_dNil, DL.ap_dCons, DL.ap_dTup, DL.ap_dLst, DL.ap_dOp, DL.ap_dB, DL.ap_dChain, DL.ap_dTru, DL.ap_dAndT, DL.ap_dOrT, DL.ap_dNotT, DL.ap_dAndV, DL.ap_dOrV, DL.ap_dNotV, DL.ap_dIf, DL.ap_dUn, DL.ap_dCall, DL.ap_dNoPart, DL.ap_dPart, DL.ap_dSl, DL.ap_dBM, DL.ap_dBM0, DL.ap_dFn, DL.ap_dLc, DL.ap_dYes, DL.ap_dRg1, DL.ap_dRg2, DL.ap_dLrg, DL.ap_dTrg, DL.ap_iAny, DL.ap_iRng1, DL.ap_iRng2, DL.ap_iRng3, DL.ap_rng1P, DL.ap_rng2P, DL.ap_rng3P, DL.ap_iZip, DL.ap_dLzip, DL.ap_dZ2, DL.ap_iEnm, DL.ap_a1, DL.ap_a2, DL.ap_sqT, DL.ap_sqR, DL.ap_dNext, DL.ap_dSeq, DL.ap_dBreak, DL.ap_dCont, DL.ap_dDrop, DL.ap_dRet, DL.ap_dRetN, DL.ap_dIfS, DL.ap_dAsg, DL.ap_dPar, DL.ap_a3, DL.ap_dPar3, DL.ap_dAug, DL.ap_dAugS, DL.ap_dFor, DL.ap_gSet, DL.ap_gTup, DL.ap_gNil, DL.ap_gCons, DL.ap_gSub, DL.tr_non, DL.tr_bl, DL.tr_int, DL.tr_str, DL.tr_tup, DL.tr_ref, DL.ad_int, DL.ad_tup, DL.ad_ref, DL.sb_int, DL.mu_int, DL.mu_tup, DL.mu_ref, DL.fd_int, DL.md_int, DL.pw_int, DL.ng_int, DL.i2_int, DL.ci_int, DL.is_bl, DL.is_nn, DL.is_in, DL.is_tn, DL.is_rn, DL.is_sn, DL.ix_tup, DL.ix_ref, DL.ixl_ref, DL.sl_tup, DL.sl_lw, DL.sl_ref, DL.st_ref, DL.ap_append, DL.ap_extend, DL.ap_popI, DL.ap_pop0, DL.ty_ref, DL.ln_tup, DL.ln_ref, DL.ab_int, DL.in_int, DL.in_bl, DL.mn_int, DL.mx_int, DL.sm_of, DL.al_ref, DL.an_ref, DL.li_of, DL.tu_of, DL.so_ref, DL.getV_0, DL.getV_s, DL.set_0, DL.set_s, DL.startD_nil, DL.startD_cons, DL.rep_0, DL.rep_s, DL.wipe_nil, DL.wipe_cons, DL.isB_bl, DL.isN_int, DL.someD_some, DL.at0, DL.at1, DL.at2, DL.at3, DL.at4, DL.at5, DL.up1_same, DL.up_up]
    exact lstAt_of g1 (h S3 g2)
  · obtain ⟨t1, t2⟩ := tzF_top (d := worthZ vs rs - price) hl
    exact ⟨none, none, by rw [Nat.sub_zero, t2], by rw [Nat.sub_zero, t1]; exact f2, E2, h1.none_of n2⟩
theorem len__law_tightened : ∀ ds S P EP, sp__law_tightened ds S P EP → ds.length = 3 := len_tightened
theorem pure__law_tightened : ∀ ds S Q EP, sp__law_tightened ds S Q EP → d__law_tightened EP { nx := fun _ S' => Q .non S', rt := Q } (startD 7 ds) S := by
  rintro ds S Q EP ⟨vs, r, price, rs, rfl, hv, hl, h⟩
  unfold d__law_tightened
  try simp only [DL.ap_dC, DL.ap_dVar, DL.ap_dNil, DL.ap_dCons, DL.ap_dTup, DL.ap_dLst, DL.ap_dOp, DL.ap_dB, DL.ap_dChain, DL.ap_dTru, DL.ap_dAndT, DL.ap_dOrT, DL.ap_dNotT, DL.ap_dAndV, DL.ap_dOrV, DL.ap_dNotV, DL.ap_dIf, DL.ap_dUn, DL.ap_dCall, DL.ap_dNoPart, DL.ap_dPart, DL.ap_dSl, DL.ap_dBM, DL.ap_dBM0, DL.ap_dFn, DL.ap_dLc, DL.ap_dYes, DL.ap_dRg1, DL.ap_dRg2, DL.ap_dLrg, DL.ap_dTrg, DL.ap_iAny, DL.ap_iRng1, DL.ap_iRng2, DL.ap_iRng3, DL.ap_rng1P, DL.ap_rng2P, DL.ap_rng3P, DL.ap_iZip, DL.ap_dLzip, DL.ap_dZ2, DL.ap_iEnm, DL.ap_a1, DL.ap_a2, DL.ap_sqT, DL.ap_sqR, DL.ap_dNext, DL.ap_dSeq, DL.ap_dBreak, DL.ap_dCont, DL.ap_dDrop, DL.ap_dRet, DL.ap_dRetN, DL.ap_dIfS, DL.ap_dAsg, DL.ap_dPar, DL.ap_a3, DL.ap_dPar3, DL.ap_dAug, DL.ap_dAugS, DL.ap_dFor, DL.ap_gSet, DL.ap_gTup, DL.ap_gNil, DL.ap_gCons, DL.ap_gSub, DL.tr_non, DL.tr_bl, DL.tr_int, DL.tr_str, DL.tr_tup, DL.tr_ref, DL.ad_int, DL.ad_tup, DL.ad_ref, DL.sb_int, DL.mu_int, DL.mu_tup, DL.mu_ref, DL.fd_int, DL.md_int, DL.pw_int, DL.ng_int, DL.i2_int, DL.ci_int, DL.is_bl, DL.is_nn, DL.is_in, DL.is_tn, DL.is_rn, DL.is_sn, DL.ix_tup, DL.ix_ref, DL.ixl_ref, DL.sl_tup, DL.sl_lw, DL.sl_ref, DL.st_ref, DL.ap_append, DL.ap_extend, DL.ap_popI, DL.ap_pop0, DL.ty_ref, DL.ln_tup, DL.ln_ref, DL.ab_int, DL.in_int, DL.in_bl, DL.mn_int, DL.mx_int, DL.sm_of, DL.al_ref, DL.an_ref, DL.li_of, DL.tu_of, DL.so_ref, DL.getV_0, DL.getV_s, DL.set_0, DL.set_s, DL.startD_nil, DL.startD_cons, DL.rep_0, DL.rep_s, DL.wipe_nil, DL.wipe_cons, DL.isB_bl, DL.isN_int, DL.someD_some, DL.at0, DL.at1, DL.at2, DL.at3, DL.at4, DL.at5, DL.up1_same, DL.up_up]
  refine ⟨vs, rs, r, rfl, hv.sm, line (by have := hv.len; omega), fun S1 h1 => ?_⟩
  try simp only [DL.ap_dC, DL.ap_dVar, DL.ap_dNil, DL.ap_dCons, DL.ap_dTup, DL.ap_dLst, DL.ap_dOp, DL.ap_dB, DL.ap_dChain, DL.ap_dTru, DL.ap_dAndT, DL.ap_dOrT, DL.ap_dNotT, DL.ap_dAndV, DL.ap_dOrV, DL.ap_dNotV, DL.ap_dIf, DL.ap_dUn, DL.ap_dCall, DL.ap_dNoPart, DL.ap_dPart, DL.ap_dSl, DL.ap_dBM, DL.ap_dBM0, DL.ap_dFn, DL.ap_dLc, DL.ap_dYes, DL.ap_dRg1, DL.ap_dRg2, DL.ap_dLrg, DL.ap_dTrg, DL.ap_iAny, DL.ap_iRng1, DL.ap_iRng2, DL.ap_iRng3, DL.ap_rng1P, DL.ap_rng2P, DL.ap_rng3P, DL.ap_iZip, DL.ap_dLzip, DL.ap_dZ2, DL.ap_iEnm, DL.ap_a1, DL.ap_a2, DL.ap_sqT, DL.ap_sqR, DL.ap_dNext, DL.ap_dSeq, DL.ap_dBreak, DL.ap_dCont, DL.ap_dDrop, DL.ap_dRet, DL.ap_dRetN, DL.ap_dIfS, DL.ap_dAsg, DL.ap_dPar, DL.ap_a3, DL.ap_dPar3, DL.ap_dAug, DL.ap_dAugS, DL.ap_dFor, DL.ap_gSet, DL.ap_gTup, DL.ap_gNil, DL.ap_gCons, DL.ap_gSub, DL.tr_non, DL.tr_bl, DL.tr_int, DL.tr_str, DL.tr_tup, DL.tr_ref, DL.ad_int, DL.ad_tup, DL.ad_ref, DL.sb_int, DL.mu_int, DL.mu_tup, DL.mu_ref, DL.fd_int, DL.md_int, DL.pw_int, DL.ng_int, DL.i2_int, DL.ci_int, DL.is_bl, DL.is_nn, DL.is_in, DL.is_tn, DL.is_rn, DL.is_sn, DL.ix_tup, DL.ix_ref, DL.ixl_ref, DL.sl_tup, DL.sl_lw, DL.sl_ref, DL.st_ref, DL.ap_append, DL.ap_extend, DL.ap_popI, DL.ap_pop0, DL.ty_ref, DL.ln_tup, DL.ln_ref, DL.ab_int, DL.in_int, DL.in_bl, DL.mn_int, DL.mx_int, DL.sm_of, DL.al_ref, DL.an_ref, DL.li_of, DL.tu_of, DL.so_ref, DL.getV_0, DL.getV_s, DL.set_0, DL.set_s, DL.startD_nil, DL.startD_cons, DL.rep_0, DL.rep_s, DL.wipe_nil, DL.wipe_cons, DL.isB_bl, DL.isN_int, DL.someD_some, DL.at0, DL.at1, DL.at2, DL.at3, DL.at4, DL.at5, DL.up1_same, DL.up_up]
  (intro p n2; generalize eS_ : up1 _ p _ = S2; have e2 := Ext.new_eq eS_ n2; have f2 := up_eq eS_; clear eS_)
  have E2 := h1.trans e2
  unfold d__law_tightened_3
  try simp only [DL.ap_dC, DL.ap_dVar, DL.ap_dNil, DL.ap_dCons, DL.ap_dTup, DL.ap_dLst, DL.ap_dOp, DL.ap_dB, DL.ap_dChain, DL.ap_dTru, DL.ap_dAndT, DL.ap_dOrT, DL.ap_dNotT, DL.ap_dAndV, DL.ap_dOrV, DL.ap_dNotV, DL.ap_dIf, DL.ap_dUn, DL.ap_dCall, DL.ap_dNoPart, DL.ap_dPart, DL.ap_dSl, DL.ap_dBM, DL.ap_dBM0, DL.ap_dFn, DL.ap_dLc, DL.ap_dYes, DL.ap_dRg1, DL.ap_dRg2, DL.ap_dLrg, DL.ap_dTrg, DL.ap_iAny, DL.ap_iRng1, DL.ap_iRng2, DL.ap_iRng3, DL.ap_rng1P, DL.ap_rng2P, DL.ap_rng3P, DL.ap_iZip, DL.ap_dLzip, DL.ap_dZ2, DL.ap_iEnm, DL.ap_a1, DL.ap_a2, DL.ap_sqT, DL.ap_sqR, DL.ap_dNext, DL.ap_dSeq, DL.ap_dBreak, DL.ap_dCont, DL.ap_dDrop, DL.ap_dRet, DL.ap_dRetN, DL.ap_dIfS, DL.ap_dAsg, DL.ap_dPar, DL.ap_a3, DL.ap_dPar3, DL.ap_dAug, DL.ap_dAugS, DL.ap_dFor, DL.ap_gSet, DL.ap_gTup, DL.ap_gNil, DL.ap_gCons, DL.ap_gSub, DL.tr_non, DL.tr_bl, DL.tr_int, DL.tr_str, DL.tr_tup, DL.tr_ref, DL.ad_int, DL.ad_tup, DL.ad_ref, DL.sb_int, DL.mu_int, DL.mu_tup, DL.mu_ref, DL.fd_int, DL.md_int, DL.pw_int, DL.ng_int, DL.i2_int, DL.ci_int, DL.is_bl, DL.is_nn, DL.is_in, DL.is_tn, DL.is_rn, DL.is_sn, DL.ix_tup, DL.ix_ref, DL.ixl_ref, DL.sl_tup, DL.sl_lw, DL.sl_ref, DL.st_ref, DL.ap_append, DL.ap_extend, DL.ap_popI, DL.ap_pop0, DL.ty_ref, DL.ln_tup, DL.ln_ref, DL.ab_int, DL.in_int, DL.in_bl, DL.mn_int, DL.mx_int, DL.sm_of, DL.al_ref, DL.an_ref, DL.li_of, DL.tu_of, DL.so_ref, DL.getV_0, DL.getV_s, DL.set_0, DL.set_s, DL.startD_nil, DL.startD_cons, DL.rep_0, DL.rep_s, DL.wipe_nil, DL.wipe_cons, DL.isB_bl, DL.isN_int, DL.someD_some, DL.at0, DL.at1, DL.at2, DL.at3, DL.at4, DL.at5, DL.up1_same, DL.up_up]
  refine ⟨by trivial, ⟨by rw [List.length_map]; have := hv.len; omega, by rw [List.length_map]; have := hv.len; omega, by decide, by decide⟩, ?_⟩
  rw [List.length_map, down_items]
  refine for_inv (fun k : Nat => D.int (((rs.length : Nat) : Int) - 1 - (k : Nat))) (List.range rs.length) (fun i ρ S' => ∃ o5 o6 : Option D, ρ = [some (.tup (tI vs :: r)), some (.int price), some (tI rs), some (.int (tzD vs rs (worthZ vs rs - price) (rs.length - i))), some (.ref p), o5, o6] ∧
    S' p = some (.lst ((tzF vs rs (worthZ vs rs - price) (rs.length - i)).map D.int)) ∧ Ext S S' ∧ S p = none) ?_ ?_ ?_
  · rintro i j hj ρ S3 K ⟨o5, o6, rfl, g1, g2, g3⟩ hK
    obtain ⟨rfl, hi⟩ := rng_at hj
    refine ⟨trivial, ?_⟩
    have ek : ((rs.length : Nat) : Int) - 1 - (j : Nat) = ((rs.length - (j + 1) : Nat) : Int) := by omega
    rw [ek]
    have e1 : rs.length - j = (rs.length - (j + 1)) + 1 := by omega
    generalize hk : rs.length - (j + 1) = k at *
    have hk1 : k < rs.length := by omega
    have hk2 : k < vs.length := by omega
    rw [e1] at g1 ⊢
    have vpos := hv.pos _ (getD_mem hk2)
    try simp only [DL.ap_dC, DL.ap_dVar, DL.ap_dNil, DL.ap_dCons, DL.ap_dTup, DL.ap_dLst, DL.ap_dOp, DL.ap_dB, DL.ap_dChain, DL.ap_dTru, DL.ap_dAndT, DL.ap_dOrT, DL.ap_dNotT, DL.ap_dAndV, DL.ap_dOrV, DL.ap_dNotV, DL.ap_dIf, DL.ap_dUn, DL.ap_dCall, DL.ap_dNoPart, DL.ap_dPart, DL.ap_dSl, DL.ap_dBM, DL.ap_dBM0, DL.ap_dFn, DL.ap_dLc, DL.ap_dYes, DL.ap_dRg1, DL.ap_dRg2, DL.ap_dLrg, DL.ap_dTrg, DL.ap_iAny, DL.ap_iRng1, DL.ap_iRng2, DL.ap_iRng3, DL.ap_rng1P, DL.ap_rng2P, DL.ap_rng3P, DL.ap_iZip, DL.ap_dLzip, DL.ap_dZ2, DL.ap_iEnm, DL.ap_a1, DL.ap_a2, DL.ap_sqT, DL.ap_sqR, DL.ap_dNext, DL.ap_dSeq, DL.ap_dBreak, DL.ap_dCont, DL.ap_dDrop, DL.ap_dRet, DL.ap_dRetN, DL.ap_dIfS, DL.ap_dAsg, DL.ap_dPar, DL.ap_a3, DL.ap_dPar3, DL.ap_dAug, DL.ap_dAugS, DL.ap_dFor, DL.ap_gSet, DL.ap_gTup, DL.ap_gNil, DL.ap_gCons, DL.ap_gSub, DL.tr_non, DL.tr_bl, DL.tr_int, DL.tr_str, DL.tr_tup, DL.tr_ref, DL.ad_int, DL.ad_tup, DL.ad_ref, DL.sb_int, DL.mu_int, DL.mu_tup, DL.mu_ref, DL.fd_int, DL.md_int, DL.pw_int, DL.ng_int, DL.i2_int, DL.ci_int, DL.is_bl, DL.is_nn, DL.is_in, DL.is_tn, DL.is_rn, DL.is_sn, DL.ix_tup, DL.ix_ref, DL.ixl_ref, DL.sl_tup, DL.sl_lw, DL.sl_ref, DL.st_ref, DL.ap_append, DL.ap_extend, DL.ap_popI, DL.ap_pop0, DL.ty_ref, DL.ln_tup, DL.ln_ref, DL.ab_int, DL.in_int, DL.in_bl, DL.mn_int, DL.mx_int, DL.sm_of, DL.al_ref, DL.an_ref, DL.li_of, DL.tu_of, DL.so_ref, DL.getV_0, DL.getV_s, DL.set_0, DL.set_s, DL.startD_nil, DL.startD_cons, DL.rep_0, DL.rep_s, DL.wipe_nil, DL.wipe_cons, DL.isB_bl, DL.isN_int, DL.someD_some, DL.at0, DL.at1, DL.at2, DL.at3, DL.at4, DL.at5, DL.up1_same, DL.up_up]
    refine lstAt_of g1 ?_
    rw [atn (by rw [List.getElem?_map, tzF_at hk1]; rfl), at_ints hk2]
    try simp only [DL.ap_dC, DL.ap_dVar, DL.ap_dNil, DL.ap_dCons, DL.ap_dTup, DL.ap_dLst, DL.ap_dOp, DL.ap_dB, DL.ap_dChain, DL.ap_dTru, DL.ap_dAndT, DL.ap_dOrT, DL.ap_dNotT, DL.ap_dAndV, DL.ap_dOrV, DL.ap_dNotV, DL.ap_dIf, DL.ap_dUn, DL.ap_dCall, DL.ap_dNoPart, DL.ap_dPart, DL.ap_dSl, DL.ap_dBM, DL.ap_dBM0, DL.ap_dFn, DL.ap_dLc, DL.ap_dYes, DL.ap_dRg1, DL.ap_dRg2, DL.ap_dLrg, DL.ap_dTrg, DL.ap_iAny, DL.ap_iRng1, DL.ap_iRng2, DL.ap_iRng3, DL.ap_rng1P, DL.ap_rng2P, DL.ap_rng3P, DL.ap_iZip, DL.ap_dLzip, DL.ap_dZ2, DL.ap_iEnm, DL.ap_a1, DL.ap_a2, DL.ap_sqT, DL.ap_sqR, DL.ap_dNext, DL.ap_dSeq, DL.ap_dBreak, DL.ap_dCont, DL.ap_dDrop, DL.ap_dRet, DL.ap_dRetN, DL.ap_dIfS, DL.ap_dAsg, DL.ap_dPar, DL.ap_a3, DL.ap_dPar3, DL.ap_dAug, DL.ap_dAugS, DL.ap_dFor, DL.ap_gSet, DL.ap_gTup, DL.ap_gNil, DL.ap_gCons, DL.ap_gSub, DL.tr_non, DL.tr_bl, DL.tr_int, DL.tr_str, DL.tr_tup, DL.tr_ref, DL.ad_int, DL.ad_tup, DL.ad_ref, DL.sb_int, DL.mu_int, DL.mu_tup, DL.mu_ref, DL.fd_int, DL.md_int, DL.pw_int, DL.ng_int, DL.i2_int, DL.ci_int, DL.is_bl, DL.is_nn, DL.is_in, DL.is_tn, DL.is_rn, DL.is_sn, DL.ix_tup, DL.ix_ref, DL.ixl_ref, DL.sl_tup, DL.sl_lw, DL.sl_ref, DL.st_ref, DL.ap_append, DL.ap_extend, DL.ap_popI, DL.ap_pop0, DL.ty_ref, DL.ln_tup, DL.ln_ref, DL.ab_int, DL.in_int, DL.in_bl, DL.mn_int, DL.mx_int, DL.sm_of, DL.al_ref, DL.an_ref, DL.li_of, DL.tu_of, DL.so_ref, DL.getV_0, DL.getV_s, DL.set_0, DL.set_s, DL.startD_nil, DL.startD_cons, DL.rep_0, DL.rep_s, DL.wipe_nil, DL.wipe_cons, DL.isB_bl, DL.isN_int, DL.someD_some, DL.at0, DL.at1, DL.at2, DL.at3, DL.at4, DL.at5, DL.up1_same, DL.up_up]
    refine ⟨div_ok (by omega) (by omega), ?_⟩
    unfold d__law_tightened_1
    try simp only [DL.ap_dC, DL.ap_dVar, DL.ap_dNil, DL.ap_dCons, DL.ap_dTup, DL.ap_dLst, DL.ap_dOp, DL.ap_dB, DL.ap_dChain, DL.ap_dTru, DL.ap_dAndT, DL.ap_dOrT, DL.ap_dNotT, DL.ap_dAndV, DL.ap_dOrV, DL.ap_dNotV, DL.ap_dIf, DL.ap_dUn, DL.ap_dCall, DL.ap_dNoPart, DL.ap_dPart, DL.ap_dSl, DL.ap_dBM, DL.ap_dBM0, DL.ap_dFn, DL.ap_dLc, DL.ap_dYes, DL.ap_dRg1, DL.ap_dRg2, DL.ap_dLrg, DL.ap_dTrg, DL.ap_iAny, DL.ap_iRng1, DL.ap_iRng2, DL.ap_iRng3, DL.ap_rng1P, DL.ap_rng2P, DL.ap_rng3P, DL.ap_iZip, DL.ap_dLzip, DL.ap_dZ2, DL.ap_iEnm, DL.ap_a1, DL.ap_a2, DL.ap_sqT, DL.ap_sqR, DL.ap_dNext, DL.ap_dSeq, DL.ap_dBreak, DL.ap_dCont, DL.ap_dDrop, DL.ap_dRet, DL.ap_dRetN, DL.ap_dIfS, DL.ap_dAsg, DL.ap_dPar, DL.ap_a3, DL.ap_dPar3, DL.ap_dAug, DL.ap_dAugS, DL.ap_dFor, DL.ap_gSet, DL.ap_gTup, DL.ap_gNil, DL.ap_gCons, DL.ap_gSub, DL.tr_non, DL.tr_bl, DL.tr_int, DL.tr_str, DL.tr_tup, DL.tr_ref, DL.ad_int, DL.ad_tup, DL.ad_ref, DL.sb_int, DL.mu_int, DL.mu_tup, DL.mu_ref, DL.fd_int, DL.md_int, DL.pw_int, DL.ng_int, DL.i2_int, DL.ci_int, DL.is_bl, DL.is_nn, DL.is_in, DL.is_tn, DL.is_rn, DL.is_sn, DL.ix_tup, DL.ix_ref, DL.ixl_ref, DL.sl_tup, DL.sl_lw, DL.sl_ref, DL.st_ref, DL.ap_append, DL.ap_extend, DL.ap_popI, DL.ap_pop0, DL.ty_ref, DL.ln_tup, DL.ln_ref, DL.ab_int, DL.in_int, DL.in_bl, DL.mn_int, DL.mx_int, DL.sm_of, DL.al_ref, DL.an_ref, DL.li_of, DL.tu_of, DL.so_ref, DL.getV_0, DL.getV_s, DL.set_0, DL.set_s, DL.startD_nil, DL.startD_cons, DL.rep_0, DL.rep_s, DL.wipe_nil, DL.wipe_cons, DL.isB_bl, DL.isN_int, DL.someD_some, DL.at0, DL.at1, DL.at2, DL.at3, DL.at4, DL.at5, DL.up1_same, DL.up_up]
    refine lstAt_of g1 ?_
    rw [atn (by rw [List.getElem?_map, tzF_at hk1]; rfl), at_ints hk2]
    try simp only [DL.ap_dC, DL.ap_dVar, DL.ap_dNil, DL.ap_dCons, DL.ap_dTup, DL.ap_dLst, DL.ap_dOp, DL.ap_dB, DL.ap_dChain, DL.ap_dTru, DL.ap_dAndT, DL.ap_dOrT, DL.ap_dNotT, DL.ap_dAndV, DL.ap_dOrV, DL.ap_dNotV, DL.ap_dIf, DL.ap_dUn, DL.ap_dCall, DL.ap_dNoPart, DL.ap_dPart, DL.ap_dSl, DL.ap_dBM, DL.ap_dBM0, DL.ap_dFn, DL.ap_dLc, DL.ap_dYes, DL.ap_dRg1, DL.ap_dRg2, DL.ap_dLrg, DL.ap_dTrg, DL.ap_iAny, DL.ap_iRng1, DL.ap_iRng2, DL.ap_iRng3, DL.ap_rng1P, DL.ap_rng2P, DL.ap_rng3P, DL.ap_iZip, DL.ap_dLzip, DL.ap_dZ2, DL.ap_iEnm, DL.ap_a1, DL.ap_a2, DL.ap_sqT, DL.ap_sqR, DL.ap_dNext, DL.ap_dSeq, DL.ap_dBreak, DL.ap_dCont, DL.ap_dDrop, DL.ap_dRet, DL.ap_dRetN, DL.ap_dIfS, DL.ap_dAsg, DL.ap_dPar, DL.ap_a3, DL.ap_dPar3, DL.ap_dAug, DL.ap_dAugS, DL.ap_dFor, DL.ap_gSet, DL.ap_gTup, DL.ap_gNil, DL.ap_gCons, DL.ap_gSub, DL.tr_non, DL.tr_bl, DL.tr_int, DL.tr_str, DL.tr_tup, DL.tr_ref, DL.ad_int, DL.ad_tup, DL.ad_ref, DL.sb_int, DL.mu_int, DL.mu_tup, DL.mu_ref, DL.fd_int, DL.md_int, DL.pw_int, DL.ng_int, DL.i2_int, DL.ci_int, DL.is_bl, DL.is_nn, DL.is_in, DL.is_tn, DL.is_rn, DL.is_sn, DL.ix_tup, DL.ix_ref, DL.ixl_ref, DL.sl_tup, DL.sl_lw, DL.sl_ref, DL.st_ref, DL.ap_append, DL.ap_extend, DL.ap_popI, DL.ap_pop0, DL.ty_ref, DL.ln_tup, DL.ln_ref, DL.ab_int, DL.in_int, DL.in_bl, DL.mn_int, DL.mx_int, DL.sm_of, DL.al_ref, DL.an_ref, DL.li_of, DL.tu_of, DL.so_ref, DL.getV_0, DL.getV_s, DL.set_0, DL.set_s, DL.startD_nil, DL.startD_cons, DL.rep_0, DL.rep_s, DL.wipe_nil, DL.wipe_cons, DL.isB_bl, DL.isN_int, DL.someD_some, DL.at0, DL.at1, DL.at2, DL.at3, DL.at4, DL.at5, DL.up1_same, DL.up_up]
    refine ⟨small_mul' (by omega) (by omega), line (show 2 ≤ 1000000 by decide), by trivial, lstAt_of g1 ?_⟩
    rw [ixn (by rw [List.length_map, tzF_len hl (by omega)]; exact hk1)]
    try simp only [DL.ap_dC, DL.ap_dVar, DL.ap_dNil, DL.ap_dCons, DL.ap_dTup, DL.ap_dLst, DL.ap_dOp, DL.ap_dB, DL.ap_dChain, DL.ap_dTru, DL.ap_dAndT, DL.ap_dOrT, DL.ap_dNotT, DL.ap_dAndV, DL.ap_dOrV, DL.ap_dNotV, DL.ap_dIf, DL.ap_dUn, DL.ap_dCall, DL.ap_dNoPart, DL.ap_dPart, DL.ap_dSl, DL.ap_dBM, DL.ap_dBM0, DL.ap_dFn, DL.ap_dLc, DL.ap_dYes, DL.ap_dRg1, DL.ap_dRg2, DL.ap_dLrg, DL.ap_dTrg, DL.ap_iAny, DL.ap_iRng1, DL.ap_iRng2, DL.ap_iRng3, DL.ap_rng1P, DL.ap_rng2P, DL.ap_rng3P, DL.ap_iZip, DL.ap_dLzip, DL.ap_dZ2, DL.ap_iEnm, DL.ap_a1, DL.ap_a2, DL.ap_sqT, DL.ap_sqR, DL.ap_dNext, DL.ap_dSeq, DL.ap_dBreak, DL.ap_dCont, DL.ap_dDrop, DL.ap_dRet, DL.ap_dRetN, DL.ap_dIfS, DL.ap_dAsg, DL.ap_dPar, DL.ap_a3, DL.ap_dPar3, DL.ap_dAug, DL.ap_dAugS, DL.ap_dFor, DL.ap_gSet, DL.ap_gTup, DL.ap_gNil, DL.ap_gCons, DL.ap_gSub, DL.tr_non, DL.tr_bl, DL.tr_int, DL.tr_str, DL.tr_tup, DL.tr_ref, DL.ad_int, DL.ad_tup, DL.ad_ref, DL.sb_int, DL.mu_int, DL.mu_tup, DL.mu_ref, DL.fd_int, DL.md_int, DL.pw_int, DL.ng_int, DL.i2_int, DL.ci_int, DL.is_bl, DL.is_nn, DL.is_in, DL.is_tn, DL.is_rn, DL.is_sn, DL.ix_tup, DL.ix_ref, DL.ixl_ref, DL.sl_tup, DL.sl_lw, DL.sl_ref, DL.st_ref, DL.ap_append, DL.ap_extend, DL.ap_popI, DL.ap_pop0, DL.ty_ref, DL.ln_tup, DL.ln_ref, DL.ab_int, DL.in_int, DL.in_bl, DL.mn_int, DL.mx_int, DL.sm_of, DL.al_ref, DL.an_ref, DL.li_of, DL.tu_of, DL.so_ref, DL.getV_0, DL.getV_s, DL.set_0, DL.set_s, DL.startD_nil, DL.startD_cons, DL.rep_0, DL.rep_s, DL.wipe_nil, DL.wipe_cons, DL.isB_bl, DL.isN_int, DL.someD_some, DL.at0, DL.at1, DL.at2, DL.at3, DL.at4, DL.at5, DL.up1_same, DL.up_up]
    refine hK _ _ ?_
    obtain ⟨s1, s2⟩ := tz_step (d := worthZ vs rs - price) hk2 hk1
    refine ⟨some (.int ((k : Nat) : Int)), some (.int (tzB vs rs (worthZ vs rs - price) k)), ?_, ?_, ?_, g3⟩
    · rw [s2]; rfl
    · rw [up1_same, set_map, s1]; rfl
    · exact fun b c hb => by rw [up1_ne (ne_new hb g3)]; exact g2 b c hb
  · rintro ρ S3 ⟨o5, o6, rfl, g1, g2, g3⟩
    refine ⟨trivial, ?_⟩
    rw [List.length_range, Nat.sub_self, tzF_bot] at g1
    unfold d__law_tightened_2
    try simp only [DL.ap_dC, DL.ap_dVar, DL.ap_dNil, DL.ap_dCons, DL.ap_dTup, DL.ap_dLst, DL.ap_dOp, DL.ap_dB, DL.ap_dChain, DL.ap_dTru, DL.ap_dAndT, DL.ap_dOrT, DL.ap_dNotT, DL.ap_dAndV, DL.ap_dOrV, DL.ap_dNotV, DL.ap_dIf, DL.ap_dUn, DL.ap_dCall, DL.ap_dNoPart, DL.ap_dPart, DL.ap_dSl, DL.ap_dBM, DL.ap_dBM0, DL.ap_dFn, DL.ap_dLc, DL.ap_dYes, DL.ap_dRg1, DL.ap_dRg2, DL.ap_dLrg, DL.ap_dTrg, DL.ap_iAny, DL.ap_iRng1, DL.ap_iRng2, DL.ap_iRng3, DL.ap_rng1P, DL.ap_rng2P, DL.ap_rng3P, DL.ap_iZip, DL.ap_dLzip, DL.ap_dZ2, DL.ap_iEnm, DL.ap_a1, DL.ap_a2, DL.ap_sqT, DL.ap_sqR, DL.ap_dNext, DL.ap_dSeq, DL.ap_dBreak, DL.ap_dCont, DL.ap_dDrop, DL.ap_dRet, DL.ap_dRetN, DL.ap_dIfS, DL.ap_dAsg, DL.ap_dPar, DL.ap_a3, DL.ap_dPar3, DL.ap_dAug, DL.ap_dAugS, DL.ap_dFor, DL.ap_gSet, DL.ap_gTup, DL.ap_gNil, DL.ap_gCons, DL.ap_gSub, DL.tr_non, DL.tr_bl, DL.tr_int, DL.tr_str, DL.tr_tup, DL.tr_ref, DL.ad_int, DL.ad_tup, DL.ad_ref, DL.sb_int, DL.mu_int, DL.mu_tup, DL.mu_ref, DL.fd_int, DL.md_int, DL.pw_int, DL.ng_int, DL.i2_int, DL.ci_int, DL.is_bl, DL.is_nn, DL.is_in, DL.is_tn, DL.is_rn, DL.is_sn, DL.ix_tup, DL.ix_ref, DL.ixl_ref, DL.sl_tup, DL.sl_lw, DL.sl_ref, DL.st_ref, DL.ap_append, DL.ap_extend, DL.ap_popI, DL.ap_pop0, DL.ty_ref, DL.ln_tup, DL.ln_ref, DL.ab_int, DL.in_int, DL.in_bl, DL.mn_int, DL.mx_int, DL.sm_of, DL.al_ref, DL.an_ref, DL.li_of, DL.tu_of, DL.so_ref, DL.getV_0, DL.getV_s, DL.set_0, DL.set_s, DL.startD_nil, DL.startD_cons, DL.rep_0, DL.rep_s, DL.wipe_nil, DL.wipe_cons, DL.isB_bl, DL.isN_int, DL.someD_some, DL.at0, DL.at1, DL.at2, DL.at3, DL.at4, DL.at5, DL.up1_same, DL.up_up]
    exact lstAt_of g1 (h S3 g2)
  · obtain ⟨t1, t2⟩ := tzF_top (d := worthZ vs rs - price) hl
    exact ⟨none, none, by rw [Nat.sub_zero, t2], by rw [Nat.sub_zero, t1]; exact f2, E2, h1.none_of n2⟩
/-! ### the law -/
theorem idle_nil {vs rs : List Int} {due : Int} (h : ∀ q ∈ rs.zipIdx, 0 < q.1 → due < vs.getD q.2 0) : idle vs due rs = [] := by
  unfold idle
  rw [List.map_eq_nil_iff, List.filter_eq_nil_iff]
  intro q hq hb
  unfold idleB at hb
  rw [Bool.and_eq_true] at hb
  have h1 := h q hq (of_decide_eq_true hb.1)
  have h2 := of_decide_eq_true hb.2
  omega
theorem zip_mem {xs ys : List Int} {i : Nat} {x y : Int} (h1 : xs[i]? = some x) (h2 : ys[i]? = some y) : (x, y) ∈ xs.zip ys := by
  refine List.mem_of_getElem? (i := i) ?_
  rw [List.getElem?_zip_eq_some]
  exact ⟨h1, h2⟩
theorem tight_ok {vs rs : List Int} {price : Int} (hv : Vok vs) (hl : rs.length = vs.length) (hn : ∀ i ∈ rs, 0 ≤ i) (hs : rs.sum ≤ 20) (hp : price ≤ worthZ vs rs) :
    (tight vs rs price).length = vs.length ∧ isTight vs price (tI (tight vs rs price)) = true ∧ ((tight vs rs price).zip rs).all (fun p => decide (p.1 ≤ p.2)) = true := by
  obtain ⟨a1, a2, a3, a4, a5⟩ := tz_spec vs rs (worthZ vs rs - price) hl.symm (fun v h => (hv.pos v h).1) hn (by omega)
  have hlen : (tight vs rs price).length = rs.length := tz_len vs rs _ hl.symm
  have e : (tz vs rs (worthZ vs rs - price)).1 = tight vs rs price := rfl
  rw [e] at a3 a4 a5
  refine ⟨hlen.trans hl, ?_, ?_⟩
  · have hpay : isPay vs price (tI (tight vs rs price)) = true := by
      unfold isPay
      rw [isRow_tI, rowOf_tI, decide_eq_true (hlen.trans hl), Bool.true_and, decide_eq_true (show (tight vs rs price).sum ≤ 20 from Int.le_trans (zip_le_sum _ _ hlen fun p hp => (a4 p hp).2) hs), decide_eq_true (show price ≤ worthZ vs (tight vs rs price) by omega)]
      rw [Bool.and_true, Bool.and_true, List.all_eq_true]
      intro i hi
      obtain ⟨k, hk⟩ := List.mem_iff_getElem?.mp hi
      have hk1 : k < rs.length := by rw [← hlen]; exact (List.getElem?_eq_some_iff.mp hk).1
      exact decide_eq_true (a4 (i, rs[k]) (zip_mem hk (List.getElem?_eq_getElem hk1))).1
    unfold isTight
    rw [hpay, rowOf_tI, Bool.true_and]
    refine decide_eq_true (idle_nil fun q hq h0 => ?_)
    have hi := mem_zi hq
    have hk1 : q.2 < vs.length := by rw [← hl, ← hlen]; exact (List.getElem?_eq_some_iff.mp hi).1
    have h5 := a5 (q.1, vs[q.2]) (zip_mem hi (List.getElem?_eq_getElem hk1))
    rw [List.getD_eq_getElem?_getD, List.getElem?_eq_getElem hk1]
    show worthZ vs (tight vs rs price) - price < vs[q.2]
    rcases h5 with h5 | h5
    · have : q.1 = 0 := h5
      omega
    · have : (tz vs rs (worthZ vs rs - price)).2 < vs[q.2] := h5
      omega
  · rw [List.all_eq_true]
    exact fun p hp => decide_eq_true (a4 p hp).2
/-- a plain value -/
def Sim : D → Bool
  | .non => true
  | .bl _ => true
  | .int _ => true
  | .str _ => true
  | _ => false
theorem sim_kn {S : Sto} {d : D} (h : Sim d = true) : Kn S d := by
  cases d <;> first
    | exact trivial
    | exact absurd h Bool.false_ne_true
theorem knT_sim {S : Sto} {d : D} (h : Sim d = true) : KnT S d := ⟨sim_kn h, fun xs e => by subst e; exact absurd h Bool.false_ne_true⟩
theorem knT_tup {S : Sto} {xs : List D} (hl : xs.length ≤ 1000000) (h : ∀ m ∈ xs, Sim m = true) : KnT S (.tup xs) := ⟨trivial, fun ys e => by cases e; exact ⟨line hl, fun m hm => sim_kn (h m hm)⟩⟩
theorem knT_lst {S : Sto} {a : Addr} {xs : List D} (h : S a = some (.lst xs)) : KnT S (.ref a) := ⟨⟨⟨xs, h⟩, trivial⟩, fun _ e => nomatch e⟩
theorem sim_ints {ns : List Int} : ∀ m ∈ ns.map D.int, Sim m = true := fun m hm => by
  obtain ⟨i, _, rfl⟩ := List.mem_map.mp hm
  rfl
theorem cut_mem {xs : List D} {lo hi : Option Int} {m : D} (h : m ∈ cutD xs lo hi) : m ∈ xs := List.mem_of_mem_drop (List.mem_of_mem_take h)
theorem cut_len {xs : List D} {lo hi : Option Int} : (cutD xs lo hi).length ≤ xs.length := by
  unfold cutD
  rw [List.length_take, List.length_drop]
  omega
theorem rep_mem {x m : D} {n : Nat} (h : m ∈ (List.replicate n [x]).flatten) : m = x := by
  obtain ⟨l, hl, hm⟩ := List.mem_flatten.mp h
  rw [(List.mem_replicate.mp hl).2] at hm
  simpa using hm
theorem rep_len {x : D} {n : Nat} : (List.replicate n [x]).flatten.length = n := by
  rw [List.length_flatten, List.map_replicate]
  simp
/-- lists stay lists -/
theorem knT_any {S S' : Sto} {d : D} (h : KnT S d) (e : ∀ b ds, S b = some (.lst ds) → ∃ ds', S' b = some (.lst ds')) : KnT S' d := by
  have one : ∀ {m : D}, Kn S m → Kn S' m := fun {m} hm => by
    cases m <;> first
      | exact hm
      | (obtain ⟨⟨ds, l⟩, _⟩ := (show (∃ ds, LA S _ ds) ∧ True from hm); obtain ⟨ds', l'⟩ := e _ ds l; exact ⟨⟨ds', l'⟩, trivial⟩)
  exact ⟨one h.1, fun xs ex => ⟨(h.2 xs ex).1, fun m hm => one ((h.2 xs ex).2 m hm)⟩⟩
theorem coin_data (vs cs : List Int) : isD 63 (coin vs cs) = true := by
  unfold coin
  simp [isD, isDs, isDs_ints]
theorem coin_repr {vs cs : List Int} (h1 : ∀ v ∈ vs, v.natAbs.log2 < 1920) (h2 : ∀ v ∈ cs, v.natAbs.log2 < 1920) : isR (coin vs cs) = true := by
  unfold coin
  simp [isR, isRs, isRs_ints h1, isRs_ints h2]
theorem coin_w {vs cs : List Int} (h1 : vs.length ≤ 1000) (h2 : cs.length ≤ 1000) : wD (coin vs cs) ≤ sizeLine := by
  unfold coin
  show (wDs (vs.map D.int) + 3) + 2 + ((wDs (cs.map D.int) + 3) + 2 + 0) + 3 ≤ sizeLine
  rw [wDs_ints, wDs_ints]
  exact Nat.le_trans (show _ ≤ 4000000 by omega) (by decide)
theorem len_law : ∀ ds S P EP, sp_law ds S P EP → ds.length = 1 := by rintro _ S P EP ⟨ns, rfl, _⟩; rfl
/-- the slots of law -/
abbrev slots (sc b t co ro ke pr th at_ od tg io ag ti to le du ki ma : Option D) : Nv := [sc, b, t, co, ro, ke, pr, th, at_, od, tg, io, ag, ti, to, le, du, ki, ma]
/-- one thing -/
theorem pure_thing {EP : Exc → Sto → Prop} {Q : DQ} {K : Nv → Sto → Prop} {S0 S : Sto} {sc b t ro th at_ od io ag ti to le du ki ma : Option D} {vs cs : List Int} {pr : Int} {x : D} (hv : Vok vs) (hc : cs.length ≤ 1000 ∧ ∀ c ∈ cs, c.natAbs < 2 ^ 1000) (hx : KnT S x) (h0 : Ext S0 S)
    (hK : ∀ io ag ti to le du ki ma S', Ext S0 S' → K (slots sc b t (some (coin vs cs)) ro (some (.str (pd (coin vs cs)).shown)) (some (.int pr)) th at_ od (some x) io ag ti to le du ki ma) S') :
    dSeq (dAsg (dFn sp__law_is_payment (xF EP) (dCons (dVar 3) (dCons (dVar 6) (dCons (dVar 10) dNil)))) (gSet 11)) (d_law_10 EP) { nx := K, rt := Q, bk := K, ct := K }
      (slots sc b t (some (coin vs cs)) ro (some (.str (pd (coin vs cs)).shown)) (some (.int pr)) th at_ od (some x) io ag ti to le du ki ma) S := by
  have log : ∀ v : Int, v.natAbs < 2 ^ 1000 → v.natAbs.log2 < 1920 := fun v => log_small
  have hr : isR (coin vs cs) = true := coin_repr (fun v h => log v (by have := hv.pos v h; exact Nat.lt_of_lt_of_le (show v.natAbs < 2 ^ 20 by omega) (by decide))) (fun v h => log v (hc.2 v h))
  have hw : wD (coin vs cs) ≤ sizeLine := coin_w hv.len hc.1
  try simp only [DL.ap_dC, DL.ap_dVar, DL.ap_dNil, DL.ap_dCons, DL.ap_dTup, DL.ap_dLst, DL.ap_dOp, DL.ap_dB, DL.ap_dChain, DL.ap_dTru, DL.ap_dAndT, DL.ap_dOrT, DL.ap_dNotT, DL.ap_dAndV, DL.ap_dOrV, DL.ap_dNotV, DL.ap_dIf, DL.ap_dUn, DL.ap_dCall, DL.ap_dNoPart, DL.ap_dPart, DL.ap_dSl, DL.ap_dBM, DL.ap_dBM0, DL.ap_dFn, DL.ap_dLc, DL.ap_dYes, DL.ap_dRg1, DL.ap_dRg2, DL.ap_dLrg, DL.ap_dTrg, DL.ap_iAny, DL.ap_iRng1, DL.ap_iRng2, DL.ap_iRng3, DL.ap_rng1P, DL.ap_rng2P, DL.ap_rng3P, DL.ap_iZip, DL.ap_dLzip, DL.ap_dZ2, DL.ap_iEnm, DL.ap_a1, DL.ap_a2, DL.ap_sqT, DL.ap_sqR, DL.ap_dNext, DL.ap_dSeq, DL.ap_dBreak, DL.ap_dCont, DL.ap_dDrop, DL.ap_dRet, DL.ap_dRetN, DL.ap_dIfS, DL.ap_dAsg, DL.ap_dPar, DL.ap_a3, DL.ap_dPar3, DL.ap_dAug, DL.ap_dAugS, DL.ap_dFor, DL.ap_gSet, DL.ap_gTup, DL.ap_gNil, DL.ap_gCons, DL.ap_gSub, DL.tr_non, DL.tr_bl, DL.tr_int, DL.tr_str, DL.tr_tup, DL.tr_ref, DL.ad_int, DL.ad_tup, DL.ad_ref, DL.sb_int, DL.mu_int, DL.mu_tup, DL.mu_ref, DL.fd_int, DL.md_int, DL.pw_int, DL.ng_int, DL.i2_int, DL.ci_int, DL.is_bl, DL.is_nn, DL.is_in, DL.is_tn, DL.is_rn, DL.is_sn, DL.ix_tup, DL.ix_ref, DL.ixl_ref, DL.sl_tup, DL.sl_lw, DL.sl_ref, DL.st_ref, DL.ap_append, DL.ap_extend, DL.ap_popI, DL.ap_pop0, DL.ty_ref, DL.ln_tup, DL.ln_ref, DL.ab_int, DL.in_int, DL.in_bl, DL.mn_int, DL.mx_int, DL.sm_of, DL.al_ref, DL.an_ref, DL.li_of, DL.tu_of, DL.so_ref, DL.getV_0, DL.getV_s, DL.set_0, DL.set_s, DL.startD_nil, DL.startD_cons, DL.rep_0, DL.rep_s, DL.wipe_nil, DL.wipe_cons, DL.isB_bl, DL.isN_int, DL.someD_some, DL.at0, DL.at1, DL.at2, DL.at3, DL.at4, DL.at5, DL.up1_same, DL.up_up]
  refine ⟨vs, [tI cs], pr, x, rfl, hv, hx, fun S1 e1 => ?_⟩
  have x1 := hx.ext e1
  unfold d_law_10
  try simp only [DL.ap_dC, DL.ap_dVar, DL.ap_dNil, DL.ap_dCons, DL.ap_dTup, DL.ap_dLst, DL.ap_dOp, DL.ap_dB, DL.ap_dChain, DL.ap_dTru, DL.ap_dAndT, DL.ap_dOrT, DL.ap_dNotT, DL.ap_dAndV, DL.ap_dOrV, DL.ap_dNotV, DL.ap_dIf, DL.ap_dUn, DL.ap_dCall, DL.ap_dNoPart, DL.ap_dPart, DL.ap_dSl, DL.ap_dBM, DL.ap_dBM0, DL.ap_dFn, DL.ap_dLc, DL.ap_dYes, DL.ap_dRg1, DL.ap_dRg2, DL.ap_dLrg, DL.ap_dTrg, DL.ap_iAny, DL.ap_iRng1, DL.ap_iRng2, DL.ap_iRng3, DL.ap_rng1P, DL.ap_rng2P, DL.ap_rng3P, DL.ap_iZip, DL.ap_dLzip, DL.ap_dZ2, DL.ap_iEnm, DL.ap_a1, DL.ap_a2, DL.ap_sqT, DL.ap_sqR, DL.ap_dNext, DL.ap_dSeq, DL.ap_dBreak, DL.ap_dCont, DL.ap_dDrop, DL.ap_dRet, DL.ap_dRetN, DL.ap_dIfS, DL.ap_dAsg, DL.ap_dPar, DL.ap_a3, DL.ap_dPar3, DL.ap_dAug, DL.ap_dAugS, DL.ap_dFor, DL.ap_gSet, DL.ap_gTup, DL.ap_gNil, DL.ap_gCons, DL.ap_gSub, DL.tr_non, DL.tr_bl, DL.tr_int, DL.tr_str, DL.tr_tup, DL.tr_ref, DL.ad_int, DL.ad_tup, DL.ad_ref, DL.sb_int, DL.mu_int, DL.mu_tup, DL.mu_ref, DL.fd_int, DL.md_int, DL.pw_int, DL.ng_int, DL.i2_int, DL.ci_int, DL.is_bl, DL.is_nn, DL.is_in, DL.is_tn, DL.is_rn, DL.is_sn, DL.ix_tup, DL.ix_ref, DL.ixl_ref, DL.sl_tup, DL.sl_lw, DL.sl_ref, DL.st_ref, DL.ap_append, DL.ap_extend, DL.ap_popI, DL.ap_pop0, DL.ty_ref, DL.ln_tup, DL.ln_ref, DL.ab_int, DL.in_int, DL.in_bl, DL.mn_int, DL.mx_int, DL.sm_of, DL.al_ref, DL.an_ref, DL.li_of, DL.tu_of, DL.so_ref, DL.getV_0, DL.getV_s, DL.set_0, DL.set_s, DL.startD_nil, DL.startD_cons, DL.rep_0, DL.rep_s, DL.wipe_nil, DL.wipe_cons, DL.isB_bl, DL.isN_int, DL.someD_some, DL.at0, DL.at1, DL.at2, DL.at3, DL.at4, DL.at5, DL.up1_same, DL.up_up]
  refine ⟨by decide, by decide, ?_⟩
  refine for_inv (fun i : Nat => D.int (0 + (i : Nat))) (List.range 2) (fun i ρ S' => ∃ ag ti to le du ki ma, ρ = slots sc b t (some (coin vs cs)) ro (some (.str (pd (coin vs cs)).shown)) (some (.int pr)) th at_ od (some x) (some (.bl (isPay vs pr x))) ag ti to le du ki ma ∧ Ext S1 S' ∧ (1 ≤ i → ti = some (.bl (isTight vs pr x)))) ?_ ?_ ⟨_, _, _, _, _, _, _, rfl, Ext.refl _, fun h => absurd h (by decide)⟩
  · rintro i j hj ρ S2 K2 ⟨ag, ti, to, le, du, ki, ma, rfl, e2, _⟩ hK2
    refine ⟨trivial, ?_⟩
    have x2 := x1.ext e2
    -- once tight is known
    have go : ∀ S3, Ext S2 S3 → d_law_2 EP { nx := K2, rt := Q, bk := d_law_9 EP { nx := K, rt := Q, bk := K, ct := K }, ct := K2 } (slots sc b t (some (coin vs cs)) ro (some (.str (pd (coin vs cs)).shown)) (some (.int pr)) th at_ od (some x) (some (.bl (isPay vs pr x))) (some (.int (0 + (j : Nat)))) (some (.bl (isTight vs pr x))) to le du ki ma) S3 := by
      intro S3 e3
      unfold d_law_2
      try simp only [DL.ap_dC, DL.ap_dVar, DL.ap_dNil, DL.ap_dCons, DL.ap_dTup, DL.ap_dLst, DL.ap_dOp, DL.ap_dB, DL.ap_dChain, DL.ap_dTru, DL.ap_dAndT, DL.ap_dOrT, DL.ap_dNotT, DL.ap_dAndV, DL.ap_dOrV, DL.ap_dNotV, DL.ap_dIf, DL.ap_dUn, DL.ap_dCall, DL.ap_dNoPart, DL.ap_dPart, DL.ap_dSl, DL.ap_dBM, DL.ap_dBM0, DL.ap_dFn, DL.ap_dLc, DL.ap_dYes, DL.ap_dRg1, DL.ap_dRg2, DL.ap_dLrg, DL.ap_dTrg, DL.ap_iAny, DL.ap_iRng1, DL.ap_iRng2, DL.ap_iRng3, DL.ap_rng1P, DL.ap_rng2P, DL.ap_rng3P, DL.ap_iZip, DL.ap_dLzip, DL.ap_dZ2, DL.ap_iEnm, DL.ap_a1, DL.ap_a2, DL.ap_sqT, DL.ap_sqR, DL.ap_dNext, DL.ap_dSeq, DL.ap_dBreak, DL.ap_dCont, DL.ap_dDrop, DL.ap_dRet, DL.ap_dRetN, DL.ap_dIfS, DL.ap_dAsg, DL.ap_dPar, DL.ap_a3, DL.ap_dPar3, DL.ap_dAug, DL.ap_dAugS, DL.ap_dFor, DL.ap_gSet, DL.ap_gTup, DL.ap_gNil, DL.ap_gCons, DL.ap_gSub, DL.tr_non, DL.tr_bl, DL.tr_int, DL.tr_str, DL.tr_tup, DL.tr_ref, DL.ad_int, DL.ad_tup, DL.ad_ref, DL.sb_int, DL.mu_int, DL.mu_tup, DL.mu_ref, DL.fd_int, DL.md_int, DL.pw_int, DL.ng_int, DL.i2_int, DL.ci_int, DL.is_bl, DL.is_nn, DL.is_in, DL.is_tn, DL.is_rn, DL.is_sn, DL.ix_tup, DL.ix_ref, DL.ixl_ref, DL.sl_tup, DL.sl_lw, DL.sl_ref, DL.st_ref, DL.ap_append, DL.ap_extend, DL.ap_popI, DL.ap_pop0, DL.ty_ref, DL.ln_tup, DL.ln_ref, DL.ab_int, DL.in_int, DL.in_bl, DL.mn_int, DL.mx_int, DL.sm_of, DL.al_ref, DL.an_ref, DL.li_of, DL.tu_of, DL.so_ref, DL.getV_0, DL.getV_s, DL.set_0, DL.set_s, DL.startD_nil, DL.startD_cons, DL.rep_0, DL.rep_s, DL.wipe_nil, DL.wipe_cons, DL.isB_bl, DL.isN_int, DL.someD_some, DL.at0, DL.at1, DL.at2, DL.at3, DL.at4, DL.at5, DL.up1_same, DL.up_up]
      refine ⟨vs, [tI cs], pr, x, rfl, hv, x2.ext e3, fun S4 e4 => ?_⟩
      try simp only [DL.ap_dC, DL.ap_dVar, DL.ap_dNil, DL.ap_dCons, DL.ap_dTup, DL.ap_dLst, DL.ap_dOp, DL.ap_dB, DL.ap_dChain, DL.ap_dTru, DL.ap_dAndT, DL.ap_dOrT, DL.ap_dNotT, DL.ap_dAndV, DL.ap_dOrV, DL.ap_dNotV, DL.ap_dIf, DL.ap_dUn, DL.ap_dCall, DL.ap_dNoPart, DL.ap_dPart, DL.ap_dSl, DL.ap_dBM, DL.ap_dBM0, DL.ap_dFn, DL.ap_dLc, DL.ap_dYes, DL.ap_dRg1, DL.ap_dRg2, DL.ap_dLrg, DL.ap_dTrg, DL.ap_iAny, DL.ap_iRng1, DL.ap_iRng2, DL.ap_iRng3, DL.ap_rng1P, DL.ap_rng2P, DL.ap_rng3P, DL.ap_iZip, DL.ap_dLzip, DL.ap_dZ2, DL.ap_iEnm, DL.ap_a1, DL.ap_a2, DL.ap_sqT, DL.ap_sqR, DL.ap_dNext, DL.ap_dSeq, DL.ap_dBreak, DL.ap_dCont, DL.ap_dDrop, DL.ap_dRet, DL.ap_dRetN, DL.ap_dIfS, DL.ap_dAsg, DL.ap_dPar, DL.ap_a3, DL.ap_dPar3, DL.ap_dAug, DL.ap_dAugS, DL.ap_dFor, DL.ap_gSet, DL.ap_gTup, DL.ap_gNil, DL.ap_gCons, DL.ap_gSub, DL.tr_non, DL.tr_bl, DL.tr_int, DL.tr_str, DL.tr_tup, DL.tr_ref, DL.ad_int, DL.ad_tup, DL.ad_ref, DL.sb_int, DL.mu_int, DL.mu_tup, DL.mu_ref, DL.fd_int, DL.md_int, DL.pw_int, DL.ng_int, DL.i2_int, DL.ci_int, DL.is_bl, DL.is_nn, DL.is_in, DL.is_tn, DL.is_rn, DL.is_sn, DL.ix_tup, DL.ix_ref, DL.ixl_ref, DL.sl_tup, DL.sl_lw, DL.sl_ref, DL.st_ref, DL.ap_append, DL.ap_extend, DL.ap_popI, DL.ap_pop0, DL.ty_ref, DL.ln_tup, DL.ln_ref, DL.ab_int, DL.in_int, DL.in_bl, DL.mn_int, DL.mx_int, DL.sm_of, DL.al_ref, DL.an_ref, DL.li_of, DL.tu_of, DL.so_ref, DL.getV_0, DL.getV_s, DL.set_0, DL.set_s, DL.startD_nil, DL.startD_cons, DL.rep_0, DL.rep_s, DL.wipe_nil, DL.wipe_cons, DL.isB_bl, DL.isN_int, DL.someD_some, DL.at0, DL.at1, DL.at2, DL.at3, DL.at4, DL.at5, DL.up1_same, DL.up_up]
      refine ⟨vs, [tI cs], pr, x, rfl, hv, (x2.ext e3).ext e4, fun S5 e5 => ?_⟩
      refine ⟨line (show 2 ≤ 1000000 by decide), ?_⟩
      (intro q n6; generalize eS_ : up1 _ q _ = S6; have e6 := Ext.new_eq eS_ n6; have f6 := up_eq eS_; clear eS_)
      unfold d_law_1
      try simp only [DL.ap_dC, DL.ap_dVar, DL.ap_dNil, DL.ap_dCons, DL.ap_dTup, DL.ap_dLst, DL.ap_dOp, DL.ap_dB, DL.ap_dChain, DL.ap_dTru, DL.ap_dAndT, DL.ap_dOrT, DL.ap_dNotT, DL.ap_dAndV, DL.ap_dOrV, DL.ap_dNotV, DL.ap_dIf, DL.ap_dUn, DL.ap_dCall, DL.ap_dNoPart, DL.ap_dPart, DL.ap_dSl, DL.ap_dBM, DL.ap_dBM0, DL.ap_dFn, DL.ap_dLc, DL.ap_dYes, DL.ap_dRg1, DL.ap_dRg2, DL.ap_dLrg, DL.ap_dTrg, DL.ap_iAny, DL.ap_iRng1, DL.ap_iRng2, DL.ap_iRng3, DL.ap_rng1P, DL.ap_rng2P, DL.ap_rng3P, DL.ap_iZip, DL.ap_dLzip, DL.ap_dZ2, DL.ap_iEnm, DL.ap_a1, DL.ap_a2, DL.ap_sqT, DL.ap_sqR, DL.ap_dNext, DL.ap_dSeq, DL.ap_dBreak, DL.ap_dCont, DL.ap_dDrop, DL.ap_dRet, DL.ap_dRetN, DL.ap_dIfS, DL.ap_dAsg, DL.ap_dPar, DL.ap_a3, DL.ap_dPar3, DL.ap_dAug, DL.ap_dAugS, DL.ap_dFor, DL.ap_gSet, DL.ap_gTup, DL.ap_gNil, DL.ap_gCons, DL.ap_gSub, DL.tr_non, DL.tr_bl, DL.tr_int, DL.tr_str, DL.tr_tup, DL.tr_ref, DL.ad_int, DL.ad_tup, DL.ad_ref, DL.sb_int, DL.mu_int, DL.mu_tup, DL.mu_ref, DL.fd_int, DL.md_int, DL.pw_int, DL.ng_int, DL.i2_int, DL.ci_int, DL.is_bl, DL.is_nn, DL.is_in, DL.is_tn, DL.is_rn, DL.is_sn, DL.ix_tup, DL.ix_ref, DL.ixl_ref, DL.sl_tup, DL.sl_lw, DL.sl_ref, DL.st_ref, DL.ap_append, DL.ap_extend, DL.ap_popI, DL.ap_pop0, DL.ty_ref, DL.ln_tup, DL.ln_ref, DL.ab_int, DL.in_int, DL.in_bl, DL.mn_int, DL.mx_int, DL.sm_of, DL.al_ref, DL.an_ref, DL.li_of, DL.tu_of, DL.so_ref, DL.getV_0, DL.getV_s, DL.set_0, DL.set_s, DL.startD_nil, DL.startD_cons, DL.rep_0, DL.rep_s, DL.wipe_nil, DL.wipe_cons, DL.isB_bl, DL.isN_int, DL.someD_some, DL.at0, DL.at1, DL.at2, DL.at3, DL.at4, DL.at5, DL.up1_same, DL.up_up]
      refine ⟨line (show 2 ≤ 1000000 by decide), ?_⟩
      (intro q2 n7; generalize eS_ : up1 _ q2 _ = S7; have e7 := Ext.new_eq eS_ n7; have f7 := up_eq eS_; clear eS_)
      refine ⟨_, _, _, rfl, .lst (e7 _ _ f6) f7 (.cons (.bl _) (.cons (.bl _) .nil)), by decide, fun S8 e8 => ?_⟩
      try simp only [DL.ap_dC, DL.ap_dVar, DL.ap_dNil, DL.ap_dCons, DL.ap_dTup, DL.ap_dLst, DL.ap_dOp, DL.ap_dB, DL.ap_dChain, DL.ap_dTru, DL.ap_dAndT, DL.ap_dOrT, DL.ap_dNotT, DL.ap_dAndV, DL.ap_dOrV, DL.ap_dNotV, DL.ap_dIf, DL.ap_dUn, DL.ap_dCall, DL.ap_dNoPart, DL.ap_dPart, DL.ap_dSl, DL.ap_dBM, DL.ap_dBM0, DL.ap_dFn, DL.ap_dLc, DL.ap_dYes, DL.ap_dRg1, DL.ap_dRg2, DL.ap_dLrg, DL.ap_dTrg, DL.ap_iAny, DL.ap_iRng1, DL.ap_iRng2, DL.ap_iRng3, DL.ap_rng1P, DL.ap_rng2P, DL.ap_rng3P, DL.ap_iZip, DL.ap_dLzip, DL.ap_dZ2, DL.ap_iEnm, DL.ap_a1, DL.ap_a2, DL.ap_sqT, DL.ap_sqR, DL.ap_dNext, DL.ap_dSeq, DL.ap_dBreak, DL.ap_dCont, DL.ap_dDrop, DL.ap_dRet, DL.ap_dRetN, DL.ap_dIfS, DL.ap_dAsg, DL.ap_dPar, DL.ap_a3, DL.ap_dPar3, DL.ap_dAug, DL.ap_dAugS, DL.ap_dFor, DL.ap_gSet, DL.ap_gTup, DL.ap_gNil, DL.ap_gCons, DL.ap_gSub, DL.tr_non, DL.tr_bl, DL.tr_int, DL.tr_str, DL.tr_tup, DL.tr_ref, DL.ad_int, DL.ad_tup, DL.ad_ref, DL.sb_int, DL.mu_int, DL.mu_tup, DL.mu_ref, DL.fd_int, DL.md_int, DL.pw_int, DL.ng_int, DL.i2_int, DL.ci_int, DL.is_bl, DL.is_nn, DL.is_in, DL.is_tn, DL.is_rn, DL.is_sn, DL.ix_tup, DL.ix_ref, DL.ixl_ref, DL.sl_tup, DL.sl_lw, DL.sl_ref, DL.st_ref, DL.ap_append, DL.ap_extend, DL.ap_popI, DL.ap_pop0, DL.ty_ref, DL.ln_tup, DL.ln_ref, DL.ab_int, DL.in_int, DL.in_bl, DL.mn_int, DL.mx_int, DL.sm_of, DL.al_ref, DL.an_ref, DL.li_of, DL.tu_of, DL.so_ref, DL.getV_0, DL.getV_s, DL.set_0, DL.set_s, DL.startD_nil, DL.startD_cons, DL.rep_0, DL.rep_s, DL.wipe_nil, DL.wipe_cons, DL.isB_bl, DL.isN_int, DL.someD_some, DL.at0, DL.at1, DL.at2, DL.at3, DL.at4, DL.at5, DL.up1_same, DL.up_up]
      rw [if_neg (by decide)]
      refine repr_DD (coin_data vs cs) hr hw (ne_strs ?_)
      rw [decide_eq_true (show (pd (.tup [tI vs, tI cs])).shown = (pd (coin vs cs)).shown from rfl)]
      try simp only [DL.ap_dC, DL.ap_dVar, DL.ap_dNil, DL.ap_dCons, DL.ap_dTup, DL.ap_dLst, DL.ap_dOp, DL.ap_dB, DL.ap_dChain, DL.ap_dTru, DL.ap_dAndT, DL.ap_dOrT, DL.ap_dNotT, DL.ap_dAndV, DL.ap_dOrV, DL.ap_dNotV, DL.ap_dIf, DL.ap_dUn, DL.ap_dCall, DL.ap_dNoPart, DL.ap_dPart, DL.ap_dSl, DL.ap_dBM, DL.ap_dBM0, DL.ap_dFn, DL.ap_dLc, DL.ap_dYes, DL.ap_dRg1, DL.ap_dRg2, DL.ap_dLrg, DL.ap_dTrg, DL.ap_iAny, DL.ap_iRng1, DL.ap_iRng2, DL.ap_iRng3, DL.ap_rng1P, DL.ap_rng2P, DL.ap_rng3P, DL.ap_iZip, DL.ap_dLzip, DL.ap_dZ2, DL.ap_iEnm, DL.ap_a1, DL.ap_a2, DL.ap_sqT, DL.ap_sqR, DL.ap_dNext, DL.ap_dSeq, DL.ap_dBreak, DL.ap_dCont, DL.ap_dDrop, DL.ap_dRet, DL.ap_dRetN, DL.ap_dIfS, DL.ap_dAsg, DL.ap_dPar, DL.ap_a3, DL.ap_dPar3, DL.ap_dAug, DL.ap_dAugS, DL.ap_dFor, DL.ap_gSet, DL.ap_gTup, DL.ap_gNil, DL.ap_gCons, DL.ap_gSub, DL.tr_non, DL.tr_bl, DL.tr_int, DL.tr_str, DL.tr_tup, DL.tr_ref, DL.ad_int, DL.ad_tup, DL.ad_ref, DL.sb_int, DL.mu_int, DL.mu_tup, DL.mu_ref, DL.fd_int, DL.md_int, DL.pw_int, DL.ng_int, DL.i2_int, DL.ci_int, DL.is_bl, DL.is_nn, DL.is_in, DL.is_tn, DL.is_rn, DL.is_sn, DL.ix_tup, DL.ix_ref, DL.ixl_ref, DL.sl_tup, DL.sl_lw, DL.sl_ref, DL.st_ref, DL.ap_append, DL.ap_extend, DL.ap_popI, DL.ap_pop0, DL.ty_ref, DL.ln_tup, DL.ln_ref, DL.ab_int, DL.in_int, DL.in_bl, DL.mn_int, DL.mx_int, DL.sm_of, DL.al_ref, DL.an_ref, DL.li_of, DL.tu_of, DL.so_ref, DL.getV_0, DL.getV_s, DL.set_0, DL.set_s, DL.startD_nil, DL.startD_cons, DL.rep_0, DL.rep_s, DL.wipe_nil, DL.wipe_cons, DL.isB_bl, DL.isN_int, DL.someD_some, DL.at0, DL.at1, DL.at2, DL.at3, DL.at4, DL.at5, DL.up1_same, DL.up_up]
      rw [if_neg (by decide)]
      exact hK2 _ _ ⟨_, _, _, _, _, _, _, rfl, ((((((e2.trans e3).trans e4).trans e5).trans e6).trans e7).trans e8), fun _ => rfl⟩
    try simp only [DL.ap_dC, DL.ap_dVar, DL.ap_dNil, DL.ap_dCons, DL.ap_dTup, DL.ap_dLst, DL.ap_dOp, DL.ap_dB, DL.ap_dChain, DL.ap_dTru, DL.ap_dAndT, DL.ap_dOrT, DL.ap_dNotT, DL.ap_dAndV, DL.ap_dOrV, DL.ap_dNotV, DL.ap_dIf, DL.ap_dUn, DL.ap_dCall, DL.ap_dNoPart, DL.ap_dPart, DL.ap_dSl, DL.ap_dBM, DL.ap_dBM0, DL.ap_dFn, DL.ap_dLc, DL.ap_dYes, DL.ap_dRg1, DL.ap_dRg2, DL.ap_dLrg, DL.ap_dTrg, DL.ap_iAny, DL.ap_iRng1, DL.ap_iRng2, DL.ap_iRng3, DL.ap_rng1P, DL.ap_rng2P, DL.ap_rng3P, DL.ap_iZip, DL.ap_dLzip, DL.ap_dZ2, DL.ap_iEnm, DL.ap_a1, DL.ap_a2, DL.ap_sqT, DL.ap_sqR, DL.ap_dNext, DL.ap_dSeq, DL.ap_dBreak, DL.ap_dCont, DL.ap_dDrop, DL.ap_dRet, DL.ap_dRetN, DL.ap_dIfS, DL.ap_dAsg, DL.ap_dPar, DL.ap_a3, DL.ap_dPar3, DL.ap_dAug, DL.ap_dAugS, DL.ap_dFor, DL.ap_gSet, DL.ap_gTup, DL.ap_gNil, DL.ap_gCons, DL.ap_gSub, DL.tr_non, DL.tr_bl, DL.tr_int, DL.tr_str, DL.tr_tup, DL.tr_ref, DL.ad_int, DL.ad_tup, DL.ad_ref, DL.sb_int, DL.mu_int, DL.mu_tup, DL.mu_ref, DL.fd_int, DL.md_int, DL.pw_int, DL.ng_int, DL.i2_int, DL.ci_int, DL.is_bl, DL.is_nn, DL.is_in, DL.is_tn, DL.is_rn, DL.is_sn, DL.ix_tup, DL.ix_ref, DL.ixl_ref, DL.sl_tup, DL.sl_lw, DL.sl_ref, DL.st_ref, DL.ap_append, DL.ap_extend, DL.ap_popI, DL.ap_pop0, DL.ty_ref, DL.ln_tup, DL.ln_ref, DL.ab_int, DL.in_int, DL.in_bl, DL.mn_int, DL.mx_int, DL.sm_of, DL.al_ref, DL.an_ref, DL.li_of, DL.tu_of, DL.so_ref, DL.getV_0, DL.getV_s, DL.set_0, DL.set_s, DL.startD_nil, DL.startD_cons, DL.rep_0, DL.rep_s, DL.wipe_nil, DL.wipe_cons, DL.isB_bl, DL.isN_int, DL.someD_some, DL.at0, DL.at1, DL.at2, DL.at3, DL.at4, DL.at5, DL.up1_same, DL.up_up]
    by_cases c : isPay vs pr x = true
    · rw [if_pos c]
      obtain ⟨rs, rfl, hl, hn, hs, hp⟩ := isPay_inv c
      refine ⟨vs, [tI cs], pr, rs, rfl, hv, hl, fun S3 e3 => ?_⟩
      refine ⟨line (show 0 ≤ 1000000 by decide), eq_tI (ys := []) ?_⟩
      have et : isTight vs pr (tI rs) = decide (idle vs (worthZ vs rs - pr) rs = []) := by
        unfold isTight
        rw [c, Bool.true_and, rowOf_tI]
      rw [← et]
      exact go S3 e3
    · rw [if_neg c]
      have c' : isPay vs pr x = false := by simpa using c
      have et : isTight vs pr x = isPay vs pr x := by
        unfold isTight
        rw [c', Bool.false_and]
      have := go S2 (Ext.refl _)
      rw [et] at this
      exact this
  · rintro ρ S2 ⟨ag, ti, to, le, du, ki, ma, rfl, e2, hti⟩
    refine ⟨trivial, ?_⟩
    have hti := hti (by decide)
    subst hti
    have x2 := x1.ext e2
    have E2 := h0.trans (e1.trans e2)
    unfold d_law_9
    try simp only [DL.ap_dC, DL.ap_dVar, DL.ap_dNil, DL.ap_dCons, DL.ap_dTup, DL.ap_dLst, DL.ap_dOp, DL.ap_dB, DL.ap_dChain, DL.ap_dTru, DL.ap_dAndT, DL.ap_dOrT, DL.ap_dNotT, DL.ap_dAndV, DL.ap_dOrV, DL.ap_dNotV, DL.ap_dIf, DL.ap_dUn, DL.ap_dCall, DL.ap_dNoPart, DL.ap_dPart, DL.ap_dSl, DL.ap_dBM, DL.ap_dBM0, DL.ap_dFn, DL.ap_dLc, DL.ap_dYes, DL.ap_dRg1, DL.ap_dRg2, DL.ap_dLrg, DL.ap_dTrg, DL.ap_iAny, DL.ap_iRng1, DL.ap_iRng2, DL.ap_iRng3, DL.ap_rng1P, DL.ap_rng2P, DL.ap_rng3P, DL.ap_iZip, DL.ap_dLzip, DL.ap_dZ2, DL.ap_iEnm, DL.ap_a1, DL.ap_a2, DL.ap_sqT, DL.ap_sqR, DL.ap_dNext, DL.ap_dSeq, DL.ap_dBreak, DL.ap_dCont, DL.ap_dDrop, DL.ap_dRet, DL.ap_dRetN, DL.ap_dIfS, DL.ap_dAsg, DL.ap_dPar, DL.ap_a3, DL.ap_dPar3, DL.ap_dAug, DL.ap_dAugS, DL.ap_dFor, DL.ap_gSet, DL.ap_gTup, DL.ap_gNil, DL.ap_gCons, DL.ap_gSub, DL.tr_non, DL.tr_bl, DL.tr_int, DL.tr_str, DL.tr_tup, DL.tr_ref, DL.ad_int, DL.ad_tup, DL.ad_ref, DL.sb_int, DL.mu_int, DL.mu_tup, DL.mu_ref, DL.fd_int, DL.md_int, DL.pw_int, DL.ng_int, DL.i2_int, DL.ci_int, DL.is_bl, DL.is_nn, DL.is_in, DL.is_tn, DL.is_rn, DL.is_sn, DL.ix_tup, DL.ix_ref, DL.ixl_ref, DL.sl_tup, DL.sl_lw, DL.sl_ref, DL.st_ref, DL.ap_append, DL.ap_extend, DL.ap_popI, DL.ap_pop0, DL.ty_ref, DL.ln_tup, DL.ln_ref, DL.ab_int, DL.in_int, DL.in_bl, DL.mn_int, DL.mx_int, DL.sm_of, DL.al_ref, DL.an_ref, DL.li_of, DL.tu_of, DL.so_ref, DL.getV_0, DL.getV_s, DL.set_0, DL.set_s, DL.startD_nil, DL.startD_cons, DL.rep_0, DL.rep_s, DL.wipe_nil, DL.wipe_cons, DL.isB_bl, DL.isN_int, DL.someD_some, DL.at0, DL.at1, DL.at2, DL.at3, DL.at4, DL.at5, DL.up1_same, DL.up_up]
    by_cases c : isPay vs pr x = true
    · obtain ⟨rs, rfl, hl, hn, hs, hp⟩ := isPay_inv c
      obtain ⟨tl, tt, tb⟩ := tight_ok hv hl hn hs hp
      rw [c]
      rw [if_neg (by decide)]
      unfold d_law_8
      try simp only [DL.ap_dC, DL.ap_dVar, DL.ap_dNil, DL.ap_dCons, DL.ap_dTup, DL.ap_dLst, DL.ap_dOp, DL.ap_dB, DL.ap_dChain, DL.ap_dTru, DL.ap_dAndT, DL.ap_dOrT, DL.ap_dNotT, DL.ap_dAndV, DL.ap_dOrV, DL.ap_dNotV, DL.ap_dIf, DL.ap_dUn, DL.ap_dCall, DL.ap_dNoPart, DL.ap_dPart, DL.ap_dSl, DL.ap_dBM, DL.ap_dBM0, DL.ap_dFn, DL.ap_dLc, DL.ap_dYes, DL.ap_dRg1, DL.ap_dRg2, DL.ap_dLrg, DL.ap_dTrg, DL.ap_iAny, DL.ap_iRng1, DL.ap_iRng2, DL.ap_iRng3, DL.ap_rng1P, DL.ap_rng2P, DL.ap_rng3P, DL.ap_iZip, DL.ap_dLzip, DL.ap_dZ2, DL.ap_iEnm, DL.ap_a1, DL.ap_a2, DL.ap_sqT, DL.ap_sqR, DL.ap_dNext, DL.ap_dSeq, DL.ap_dBreak, DL.ap_dCont, DL.ap_dDrop, DL.ap_dRet, DL.ap_dRetN, DL.ap_dIfS, DL.ap_dAsg, DL.ap_dPar, DL.ap_a3, DL.ap_dPar3, DL.ap_dAug, DL.ap_dAugS, DL.ap_dFor, DL.ap_gSet, DL.ap_gTup, DL.ap_gNil, DL.ap_gCons, DL.ap_gSub, DL.tr_non, DL.tr_bl, DL.tr_int, DL.tr_str, DL.tr_tup, DL.tr_ref, DL.ad_int, DL.ad_tup, DL.ad_ref, DL.sb_int, DL.mu_int, DL.mu_tup, DL.mu_ref, DL.fd_int, DL.md_int, DL.pw_int, DL.ng_int, DL.i2_int, DL.ci_int, DL.is_bl, DL.is_nn, DL.is_in, DL.is_tn, DL.is_rn, DL.is_sn, DL.ix_tup, DL.ix_ref, DL.ixl_ref, DL.sl_tup, DL.sl_lw, DL.sl_ref, DL.st_ref, DL.ap_append, DL.ap_extend, DL.ap_popI, DL.ap_pop0, DL.ty_ref, DL.ln_tup, DL.ln_ref, DL.ab_int, DL.in_int, DL.in_bl, DL.mn_int, DL.mx_int, DL.sm_of, DL.al_ref, DL.an_ref, DL.li_of, DL.tu_of, DL.so_ref, DL.getV_0, DL.getV_s, DL.set_0, DL.set_s, DL.startD_nil, DL.startD_cons, DL.rep_0, DL.rep_s, DL.wipe_nil, DL.wipe_cons, DL.isB_bl, DL.isN_int, DL.someD_some, DL.at0, DL.at1, DL.at2, DL.at3, DL.at4, DL.at5, DL.up1_same, DL.up_up]
      refine ⟨vs, [tI cs], pr, rs, rfl, hv, hl, fun S3 e3 => ?_⟩
      unfold d_law_7
      try simp only [DL.ap_dC, DL.ap_dVar, DL.ap_dNil, DL.ap_dCons, DL.ap_dTup, DL.ap_dLst, DL.ap_dOp, DL.ap_dB, DL.ap_dChain, DL.ap_dTru, DL.ap_dAndT, DL.ap_dOrT, DL.ap_dNotT, DL.ap_dAndV, DL.ap_dOrV, DL.ap_dNotV, DL.ap_dIf, DL.ap_dUn, DL.ap_dCall, DL.ap_dNoPart, DL.ap_dPart, DL.ap_dSl, DL.ap_dBM, DL.ap_dBM0, DL.ap_dFn, DL.ap_dLc, DL.ap_dYes, DL.ap_dRg1, DL.ap_dRg2, DL.ap_dLrg, DL.ap_dTrg, DL.ap_iAny, DL.ap_iRng1, DL.ap_iRng2, DL.ap_iRng3, DL.ap_rng1P, DL.ap_rng2P, DL.ap_rng3P, DL.ap_iZip, DL.ap_dLzip, DL.ap_dZ2, DL.ap_iEnm, DL.ap_a1, DL.ap_a2, DL.ap_sqT, DL.ap_sqR, DL.ap_dNext, DL.ap_dSeq, DL.ap_dBreak, DL.ap_dCont, DL.ap_dDrop, DL.ap_dRet, DL.ap_dRetN, DL.ap_dIfS, DL.ap_dAsg, DL.ap_dPar, DL.ap_a3, DL.ap_dPar3, DL.ap_dAug, DL.ap_dAugS, DL.ap_dFor, DL.ap_gSet, DL.ap_gTup, DL.ap_gNil, DL.ap_gCons, DL.ap_gSub, DL.tr_non, DL.tr_bl, DL.tr_int, DL.tr_str, DL.tr_tup, DL.tr_ref, DL.ad_int, DL.ad_tup, DL.ad_ref, DL.sb_int, DL.mu_int, DL.mu_tup, DL.mu_ref, DL.fd_int, DL.md_int, DL.pw_int, DL.ng_int, DL.i2_int, DL.ci_int, DL.is_bl, DL.is_nn, DL.is_in, DL.is_tn, DL.is_rn, DL.is_sn, DL.ix_tup, DL.ix_ref, DL.ixl_ref, DL.sl_tup, DL.sl_lw, DL.sl_ref, DL.st_ref, DL.ap_append, DL.ap_extend, DL.ap_popI, DL.ap_pop0, DL.ty_ref, DL.ln_tup, DL.ln_ref, DL.ab_int, DL.in_int, DL.in_bl, DL.mn_int, DL.mx_int, DL.sm_of, DL.al_ref, DL.an_ref, DL.li_of, DL.tu_of, DL.so_ref, DL.getV_0, DL.getV_s, DL.set_0, DL.set_s, DL.startD_nil, DL.startD_cons, DL.rep_0, DL.rep_s, DL.wipe_nil, DL.wipe_cons, DL.isB_bl, DL.isN_int, DL.someD_some, DL.at0, DL.at1, DL.at2, DL.at3, DL.at4, DL.at5, DL.up1_same, DL.up_up]
      refine ⟨vs, [tI cs], pr, rs, rfl, hv, hl, fun S4 e4 => ?_⟩
      try simp only [DL.ap_dC, DL.ap_dVar, DL.ap_dNil, DL.ap_dCons, DL.ap_dTup, DL.ap_dLst, DL.ap_dOp, DL.ap_dB, DL.ap_dChain, DL.ap_dTru, DL.ap_dAndT, DL.ap_dOrT, DL.ap_dNotT, DL.ap_dAndV, DL.ap_dOrV, DL.ap_dNotV, DL.ap_dIf, DL.ap_dUn, DL.ap_dCall, DL.ap_dNoPart, DL.ap_dPart, DL.ap_dSl, DL.ap_dBM, DL.ap_dBM0, DL.ap_dFn, DL.ap_dLc, DL.ap_dYes, DL.ap_dRg1, DL.ap_dRg2, DL.ap_dLrg, DL.ap_dTrg, DL.ap_iAny, DL.ap_iRng1, DL.ap_iRng2, DL.ap_iRng3, DL.ap_rng1P, DL.ap_rng2P, DL.ap_rng3P, DL.ap_iZip, DL.ap_dLzip, DL.ap_dZ2, DL.ap_iEnm, DL.ap_a1, DL.ap_a2, DL.ap_sqT, DL.ap_sqR, DL.ap_dNext, DL.ap_dSeq, DL.ap_dBreak, DL.ap_dCont, DL.ap_dDrop, DL.ap_dRet, DL.ap_dRetN, DL.ap_dIfS, DL.ap_dAsg, DL.ap_dPar, DL.ap_a3, DL.ap_dPar3, DL.ap_dAug, DL.ap_dAugS, DL.ap_dFor, DL.ap_gSet, DL.ap_gTup, DL.ap_gNil, DL.ap_gCons, DL.ap_gSub, DL.tr_non, DL.tr_bl, DL.tr_int, DL.tr_str, DL.tr_tup, DL.tr_ref, DL.ad_int, DL.ad_tup, DL.ad_ref, DL.sb_int, DL.mu_int, DL.mu_tup, DL.mu_ref, DL.fd_int, DL.md_int, DL.pw_int, DL.ng_int, DL.i2_int, DL.ci_int, DL.is_bl, DL.is_nn, DL.is_in, DL.is_tn, DL.is_rn, DL.is_sn, DL.ix_tup, DL.ix_ref, DL.ixl_ref, DL.sl_tup, DL.sl_lw, DL.sl_ref, DL.st_ref, DL.ap_append, DL.ap_extend, DL.ap_popI, DL.ap_pop0, DL.ty_ref, DL.ln_tup, DL.ln_ref, DL.ab_int, DL.in_int, DL.in_bl, DL.mn_int, DL.mx_int, DL.sm_of, DL.al_ref, DL.an_ref, DL.li_of, DL.tu_of, DL.so_ref, DL.getV_0, DL.getV_s, DL.set_0, DL.set_s, DL.startD_nil, DL.startD_cons, DL.rep_0, DL.rep_s, DL.wipe_nil, DL.wipe_cons, DL.isB_bl, DL.isN_int, DL.someD_some, DL.at0, DL.at1, DL.at2, DL.at3, DL.at4, DL.at5, DL.up1_same, DL.up_up]
      refine ⟨vs, [tI cs], pr, rs, rfl, hv, hl, fun S5 e5 => ?_⟩
      refine ⟨line (show 2 ≤ 1000000 by decide), ?_⟩
      (intro q n6; generalize eS_ : up1 _ q _ = S6; have e6 := Ext.new_eq eS_ n6; have f6 := up_eq eS_; clear eS_)
      unfold d_law_6
      try simp only [DL.ap_dC, DL.ap_dVar, DL.ap_dNil, DL.ap_dCons, DL.ap_dTup, DL.ap_dLst, DL.ap_dOp, DL.ap_dB, DL.ap_dChain, DL.ap_dTru, DL.ap_dAndT, DL.ap_dOrT, DL.ap_dNotT, DL.ap_dAndV, DL.ap_dOrV, DL.ap_dNotV, DL.ap_dIf, DL.ap_dUn, DL.ap_dCall, DL.ap_dNoPart, DL.ap_dPart, DL.ap_dSl, DL.ap_dBM, DL.ap_dBM0, DL.ap_dFn, DL.ap_dLc, DL.ap_dYes, DL.ap_dRg1, DL.ap_dRg2, DL.ap_dLrg, DL.ap_dTrg, DL.ap_iAny, DL.ap_iRng1, DL.ap_iRng2, DL.ap_iRng3, DL.ap_rng1P, DL.ap_rng2P, DL.ap_rng3P, DL.ap_iZip, DL.ap_dLzip, DL.ap_dZ2, DL.ap_iEnm, DL.ap_a1, DL.ap_a2, DL.ap_sqT, DL.ap_sqR, DL.ap_dNext, DL.ap_dSeq, DL.ap_dBreak, DL.ap_dCont, DL.ap_dDrop, DL.ap_dRet, DL.ap_dRetN, DL.ap_dIfS, DL.ap_dAsg, DL.ap_dPar, DL.ap_a3, DL.ap_dPar3, DL.ap_dAug, DL.ap_dAugS, DL.ap_dFor, DL.ap_gSet, DL.ap_gTup, DL.ap_gNil, DL.ap_gCons, DL.ap_gSub, DL.tr_non, DL.tr_bl, DL.tr_int, DL.tr_str, DL.tr_tup, DL.tr_ref, DL.ad_int, DL.ad_tup, DL.ad_ref, DL.sb_int, DL.mu_int, DL.mu_tup, DL.mu_ref, DL.fd_int, DL.md_int, DL.pw_int, DL.ng_int, DL.i2_int, DL.ci_int, DL.is_bl, DL.is_nn, DL.is_in, DL.is_tn, DL.is_rn, DL.is_sn, DL.ix_tup, DL.ix_ref, DL.ixl_ref, DL.sl_tup, DL.sl_lw, DL.sl_ref, DL.st_ref, DL.ap_append, DL.ap_extend, DL.ap_popI, DL.ap_pop0, DL.ty_ref, DL.ln_tup, DL.ln_ref, DL.ab_int, DL.in_int, DL.in_bl, DL.mn_int, DL.mx_int, DL.sm_of, DL.al_ref, DL.an_ref, DL.li_of, DL.tu_of, DL.so_ref, DL.getV_0, DL.getV_s, DL.set_0, DL.set_s, DL.startD_nil, DL.startD_cons, DL.rep_0, DL.rep_s, DL.wipe_nil, DL.wipe_cons, DL.isB_bl, DL.isN_int, DL.someD_some, DL.at0, DL.at1, DL.at2, DL.at3, DL.at4, DL.at5, DL.up1_same, DL.up_up]
      refine ⟨vs, [tI cs], pr, rs, rfl, hv, hl, fun S7 e7 => ?_⟩
      try simp only [DL.ap_dC, DL.ap_dVar, DL.ap_dNil, DL.ap_dCons, DL.ap_dTup, DL.ap_dLst, DL.ap_dOp, DL.ap_dB, DL.ap_dChain, DL.ap_dTru, DL.ap_dAndT, DL.ap_dOrT, DL.ap_dNotT, DL.ap_dAndV, DL.ap_dOrV, DL.ap_dNotV, DL.ap_dIf, DL.ap_dUn, DL.ap_dCall, DL.ap_dNoPart, DL.ap_dPart, DL.ap_dSl, DL.ap_dBM, DL.ap_dBM0, DL.ap_dFn, DL.ap_dLc, DL.ap_dYes, DL.ap_dRg1, DL.ap_dRg2, DL.ap_dLrg, DL.ap_dTrg, DL.ap_iAny, DL.ap_iRng1, DL.ap_iRng2, DL.ap_iRng3, DL.ap_rng1P, DL.ap_rng2P, DL.ap_rng3P, DL.ap_iZip, DL.ap_dLzip, DL.ap_dZ2, DL.ap_iEnm, DL.ap_a1, DL.ap_a2, DL.ap_sqT, DL.ap_sqR, DL.ap_dNext, DL.ap_dSeq, DL.ap_dBreak, DL.ap_dCont, DL.ap_dDrop, DL.ap_dRet, DL.ap_dRetN, DL.ap_dIfS, DL.ap_dAsg, DL.ap_dPar, DL.ap_a3, DL.ap_dPar3, DL.ap_dAug, DL.ap_dAugS, DL.ap_dFor, DL.ap_gSet, DL.ap_gTup, DL.ap_gNil, DL.ap_gCons, DL.ap_gSub, DL.tr_non, DL.tr_bl, DL.tr_int, DL.tr_str, DL.tr_tup, DL.tr_ref, DL.ad_int, DL.ad_tup, DL.ad_ref, DL.sb_int, DL.mu_int, DL.mu_tup, DL.mu_ref, DL.fd_int, DL.md_int, DL.pw_int, DL.ng_int, DL.i2_int, DL.ci_int, DL.is_bl, DL.is_nn, DL.is_in, DL.is_tn, DL.is_rn, DL.is_sn, DL.ix_tup, DL.ix_ref, DL.ixl_ref, DL.sl_tup, DL.sl_lw, DL.sl_ref, DL.st_ref, DL.ap_append, DL.ap_extend, DL.ap_popI, DL.ap_pop0, DL.ty_ref, DL.ln_tup, DL.ln_ref, DL.ab_int, DL.in_int, DL.in_bl, DL.mn_int, DL.mx_int, DL.sm_of, DL.al_ref, DL.an_ref, DL.li_of, DL.tu_of, DL.so_ref, DL.getV_0, DL.getV_s, DL.set_0, DL.set_s, DL.startD_nil, DL.startD_cons, DL.rep_0, DL.rep_s, DL.wipe_nil, DL.wipe_cons, DL.isB_bl, DL.isN_int, DL.someD_some, DL.at0, DL.at1, DL.at2, DL.at3, DL.at4, DL.at5, DL.up1_same, DL.up_up]
      refine ⟨line (show 2 ≤ 1000000 by decide), ?_⟩
      (intro q2 n8; generalize eS_ : up1 _ q2 _ = S8; have e8 := Ext.new_eq eS_ n8; have f8 := up_eq eS_; clear eS_)
      refine ⟨_, _, _, rfl, .lst (e8 _ _ (e7 _ _ f6)) f8 (.cons (sa_tI _ _) (.cons (sa_tI _ _) .nil)), ?_, fun S9 e9 => ?_⟩
      · have h1 : (idle vs (worthZ vs rs - pr) rs).length ≤ rs.length := by
          unfold idle
          rw [List.length_map]
          exact Nat.le_trans (List.length_filter_le _ _) (by rw [List.length_zipIdx]; omega)
        have := hv.len
        omega
      try simp only [DL.ap_dC, DL.ap_dVar, DL.ap_dNil, DL.ap_dCons, DL.ap_dTup, DL.ap_dLst, DL.ap_dOp, DL.ap_dB, DL.ap_dChain, DL.ap_dTru, DL.ap_dAndT, DL.ap_dOrT, DL.ap_dNotT, DL.ap_dAndV, DL.ap_dOrV, DL.ap_dNotV, DL.ap_dIf, DL.ap_dUn, DL.ap_dCall, DL.ap_dNoPart, DL.ap_dPart, DL.ap_dSl, DL.ap_dBM, DL.ap_dBM0, DL.ap_dFn, DL.ap_dLc, DL.ap_dYes, DL.ap_dRg1, DL.ap_dRg2, DL.ap_dLrg, DL.ap_dTrg, DL.ap_iAny, DL.ap_iRng1, DL.ap_iRng2, DL.ap_iRng3, DL.ap_rng1P, DL.ap_rng2P, DL.ap_rng3P, DL.ap_iZip, DL.ap_dLzip, DL.ap_dZ2, DL.ap_iEnm, DL.ap_a1, DL.ap_a2, DL.ap_sqT, DL.ap_sqR, DL.ap_dNext, DL.ap_dSeq, DL.ap_dBreak, DL.ap_dCont, DL.ap_dDrop, DL.ap_dRet, DL.ap_dRetN, DL.ap_dIfS, DL.ap_dAsg, DL.ap_dPar, DL.ap_a3, DL.ap_dPar3, DL.ap_dAug, DL.ap_dAugS, DL.ap_dFor, DL.ap_gSet, DL.ap_gTup, DL.ap_gNil, DL.ap_gCons, DL.ap_gSub, DL.tr_non, DL.tr_bl, DL.tr_int, DL.tr_str, DL.tr_tup, DL.tr_ref, DL.ad_int, DL.ad_tup, DL.ad_ref, DL.sb_int, DL.mu_int, DL.mu_tup, DL.mu_ref, DL.fd_int, DL.md_int, DL.pw_int, DL.ng_int, DL.i2_int, DL.ci_int, DL.is_bl, DL.is_nn, DL.is_in, DL.is_tn, DL.is_rn, DL.is_sn, DL.ix_tup, DL.ix_ref, DL.ixl_ref, DL.sl_tup, DL.sl_lw, DL.sl_ref, DL.st_ref, DL.ap_append, DL.ap_extend, DL.ap_popI, DL.ap_pop0, DL.ty_ref, DL.ln_tup, DL.ln_ref, DL.ab_int, DL.in_int, DL.in_bl, DL.mn_int, DL.mx_int, DL.sm_of, DL.al_ref, DL.an_ref, DL.li_of, DL.tu_of, DL.so_ref, DL.getV_0, DL.getV_s, DL.set_0, DL.set_s, DL.startD_nil, DL.startD_cons, DL.rep_0, DL.rep_s, DL.wipe_nil, DL.wipe_cons, DL.isB_bl, DL.isN_int, DL.someD_some, DL.at0, DL.at1, DL.at2, DL.at3, DL.at4, DL.at5, DL.up1_same, DL.up_up]
      rw [if_neg (by decide)]
      unfold d_law_5
      try simp only [DL.ap_dC, DL.ap_dVar, DL.ap_dNil, DL.ap_dCons, DL.ap_dTup, DL.ap_dLst, DL.ap_dOp, DL.ap_dB, DL.ap_dChain, DL.ap_dTru, DL.ap_dAndT, DL.ap_dOrT, DL.ap_dNotT, DL.ap_dAndV, DL.ap_dOrV, DL.ap_dNotV, DL.ap_dIf, DL.ap_dUn, DL.ap_dCall, DL.ap_dNoPart, DL.ap_dPart, DL.ap_dSl, DL.ap_dBM, DL.ap_dBM0, DL.ap_dFn, DL.ap_dLc, DL.ap_dYes, DL.ap_dRg1, DL.ap_dRg2, DL.ap_dLrg, DL.ap_dTrg, DL.ap_iAny, DL.ap_iRng1, DL.ap_iRng2, DL.ap_iRng3, DL.ap_rng1P, DL.ap_rng2P, DL.ap_rng3P, DL.ap_iZip, DL.ap_dLzip, DL.ap_dZ2, DL.ap_iEnm, DL.ap_a1, DL.ap_a2, DL.ap_sqT, DL.ap_sqR, DL.ap_dNext, DL.ap_dSeq, DL.ap_dBreak, DL.ap_dCont, DL.ap_dDrop, DL.ap_dRet, DL.ap_dRetN, DL.ap_dIfS, DL.ap_dAsg, DL.ap_dPar, DL.ap_a3, DL.ap_dPar3, DL.ap_dAug, DL.ap_dAugS, DL.ap_dFor, DL.ap_gSet, DL.ap_gTup, DL.ap_gNil, DL.ap_gCons, DL.ap_gSub, DL.tr_non, DL.tr_bl, DL.tr_int, DL.tr_str, DL.tr_tup, DL.tr_ref, DL.ad_int, DL.ad_tup, DL.ad_ref, DL.sb_int, DL.mu_int, DL.mu_tup, DL.mu_ref, DL.fd_int, DL.md_int, DL.pw_int, DL.ng_int, DL.i2_int, DL.ci_int, DL.is_bl, DL.is_nn, DL.is_in, DL.is_tn, DL.is_rn, DL.is_sn, DL.ix_tup, DL.ix_ref, DL.ixl_ref, DL.sl_tup, DL.sl_lw, DL.sl_ref, DL.st_ref, DL.ap_append, DL.ap_extend, DL.ap_popI, DL.ap_pop0, DL.ty_ref, DL.ln_tup, DL.ln_ref, DL.ab_int, DL.in_int, DL.in_bl, DL.mn_int, DL.mx_int, DL.sm_of, DL.al_ref, DL.an_ref, DL.li_of, DL.tu_of, DL.so_ref, DL.getV_0, DL.getV_s, DL.set_0, DL.set_s, DL.startD_nil, DL.startD_cons, DL.rep_0, DL.rep_s, DL.wipe_nil, DL.wipe_cons, DL.isB_bl, DL.isN_int, DL.someD_some, DL.at0, DL.at1, DL.at2, DL.at3, DL.at4, DL.at5, DL.up1_same, DL.up_up]
      have xl : KnT S9 (tI (tight vs rs pr)) := knT_tup (by rw [List.length_map, tl]; have := hv.len; omega) sim_ints
      refine ⟨vs, [tI cs], pr, _, rfl, hv, xl, fun S10 e10 => ?_⟩
      try simp only [DL.ap_dC, DL.ap_dVar, DL.ap_dNil, DL.ap_dCons, DL.ap_dTup, DL.ap_dLst, DL.ap_dOp, DL.ap_dB, DL.ap_dChain, DL.ap_dTru, DL.ap_dAndT, DL.ap_dOrT, DL.ap_dNotT, DL.ap_dAndV, DL.ap_dOrV, DL.ap_dNotV, DL.ap_dIf, DL.ap_dUn, DL.ap_dCall, DL.ap_dNoPart, DL.ap_dPart, DL.ap_dSl, DL.ap_dBM, DL.ap_dBM0, DL.ap_dFn, DL.ap_dLc, DL.ap_dYes, DL.ap_dRg1, DL.ap_dRg2, DL.ap_dLrg, DL.ap_dTrg, DL.ap_iAny, DL.ap_iRng1, DL.ap_iRng2, DL.ap_iRng3, DL.ap_rng1P, DL.ap_rng2P, DL.ap_rng3P, DL.ap_iZip, DL.ap_dLzip, DL.ap_dZ2, DL.ap_iEnm, DL.ap_a1, DL.ap_a2, DL.ap_sqT, DL.ap_sqR, DL.ap_dNext, DL.ap_dSeq, DL.ap_dBreak, DL.ap_dCont, DL.ap_dDrop, DL.ap_dRet, DL.ap_dRetN, DL.ap_dIfS, DL.ap_dAsg, DL.ap_dPar, DL.ap_a3, DL.ap_dPar3, DL.ap_dAug, DL.ap_dAugS, DL.ap_dFor, DL.ap_gSet, DL.ap_gTup, DL.ap_gNil, DL.ap_gCons, DL.ap_gSub, DL.tr_non, DL.tr_bl, DL.tr_int, DL.tr_str, DL.tr_tup, DL.tr_ref, DL.ad_int, DL.ad_tup, DL.ad_ref, DL.sb_int, DL.mu_int, DL.mu_tup, DL.mu_ref, DL.fd_int, DL.md_int, DL.pw_int, DL.ng_int, DL.i2_int, DL.ci_int, DL.is_bl, DL.is_nn, DL.is_in, DL.is_tn, DL.is_rn, DL.is_sn, DL.ix_tup, DL.ix_ref, DL.ixl_ref, DL.sl_tup, DL.sl_lw, DL.sl_ref, DL.st_ref, DL.ap_append, DL.ap_extend, DL.ap_popI, DL.ap_pop0, DL.ty_ref, DL.ln_tup, DL.ln_ref, DL.ab_int, DL.in_int, DL.in_bl, DL.mn_int, DL.mx_int, DL.sm_of, DL.al_ref, DL.an_ref, DL.li_of, DL.tu_of, DL.so_ref, DL.getV_0, DL.getV_s, DL.set_0, DL.set_s, DL.startD_nil, DL.startD_cons, DL.rep_0, DL.rep_s, DL.wipe_nil, DL.wipe_cons, DL.isB_bl, DL.isN_int, DL.someD_some, DL.at0, DL.at1, DL.at2, DL.at3, DL.at4, DL.at5, DL.up1_same, DL.up_up]
      rw [tt]
      rw [if_neg (by decide)]
      refine ⟨_, rs, rfl, line (by rw [tl]; have := hv.len; omega), fun S11 e11 => ?_⟩
      rw [tb]
      try simp only [DL.ap_dC, DL.ap_dVar, DL.ap_dNil, DL.ap_dCons, DL.ap_dTup, DL.ap_dLst, DL.ap_dOp, DL.ap_dB, DL.ap_dChain, DL.ap_dTru, DL.ap_dAndT, DL.ap_dOrT, DL.ap_dNotT, DL.ap_dAndV, DL.ap_dOrV, DL.ap_dNotV, DL.ap_dIf, DL.ap_dUn, DL.ap_dCall, DL.ap_dNoPart, DL.ap_dPart, DL.ap_dSl, DL.ap_dBM, DL.ap_dBM0, DL.ap_dFn, DL.ap_dLc, DL.ap_dYes, DL.ap_dRg1, DL.ap_dRg2, DL.ap_dLrg, DL.ap_dTrg, DL.ap_iAny, DL.ap_iRng1, DL.ap_iRng2, DL.ap_iRng3, DL.ap_rng1P, DL.ap_rng2P, DL.ap_rng3P, DL.ap_iZip, DL.ap_dLzip, DL.ap_dZ2, DL.ap_iEnm, DL.ap_a1, DL.ap_a2, DL.ap_sqT, DL.ap_sqR, DL.ap_dNext, DL.ap_dSeq, DL.ap_dBreak, DL.ap_dCont, DL.ap_dDrop, DL.ap_dRet, DL.ap_dRetN, DL.ap_dIfS, DL.ap_dAsg, DL.ap_dPar, DL.ap_a3, DL.ap_dPar3, DL.ap_dAug, DL.ap_dAugS, DL.ap_dFor, DL.ap_gSet, DL.ap_gTup, DL.ap_gNil, DL.ap_gCons, DL.ap_gSub, DL.tr_non, DL.tr_bl, DL.tr_int, DL.tr_str, DL.tr_tup, DL.tr_ref, DL.ad_int, DL.ad_tup, DL.ad_ref, DL.sb_int, DL.mu_int, DL.mu_tup, DL.mu_ref, DL.fd_int, DL.md_int, DL.pw_int, DL.ng_int, DL.i2_int, DL.ci_int, DL.is_bl, DL.is_nn, DL.is_in, DL.is_tn, DL.is_rn, DL.is_sn, DL.ix_tup, DL.ix_ref, DL.ixl_ref, DL.sl_tup, DL.sl_lw, DL.sl_ref, DL.st_ref, DL.ap_append, DL.ap_extend, DL.ap_popI, DL.ap_pop0, DL.ty_ref, DL.ln_tup, DL.ln_ref, DL.ab_int, DL.in_int, DL.in_bl, DL.mn_int, DL.mx_int, DL.sm_of, DL.al_ref, DL.an_ref, DL.li_of, DL.tu_of, DL.so_ref, DL.getV_0, DL.getV_s, DL.set_0, DL.set_s, DL.startD_nil, DL.startD_cons, DL.rep_0, DL.rep_s, DL.wipe_nil, DL.wipe_cons, DL.isB_bl, DL.isN_int, DL.someD_some, DL.at0, DL.at1, DL.at2, DL.at3, DL.at4, DL.at5, DL.up1_same, DL.up_up]
      rw [if_neg (by decide)]
      unfold d_law_4
      try simp only [DL.ap_dC, DL.ap_dVar, DL.ap_dNil, DL.ap_dCons, DL.ap_dTup, DL.ap_dLst, DL.ap_dOp, DL.ap_dB, DL.ap_dChain, DL.ap_dTru, DL.ap_dAndT, DL.ap_dOrT, DL.ap_dNotT, DL.ap_dAndV, DL.ap_dOrV, DL.ap_dNotV, DL.ap_dIf, DL.ap_dUn, DL.ap_dCall, DL.ap_dNoPart, DL.ap_dPart, DL.ap_dSl, DL.ap_dBM, DL.ap_dBM0, DL.ap_dFn, DL.ap_dLc, DL.ap_dYes, DL.ap_dRg1, DL.ap_dRg2, DL.ap_dLrg, DL.ap_dTrg, DL.ap_iAny, DL.ap_iRng1, DL.ap_iRng2, DL.ap_iRng3, DL.ap_rng1P, DL.ap_rng2P, DL.ap_rng3P, DL.ap_iZip, DL.ap_dLzip, DL.ap_dZ2, DL.ap_iEnm, DL.ap_a1, DL.ap_a2, DL.ap_sqT, DL.ap_sqR, DL.ap_dNext, DL.ap_dSeq, DL.ap_dBreak, DL.ap_dCont, DL.ap_dDrop, DL.ap_dRet, DL.ap_dRetN, DL.ap_dIfS, DL.ap_dAsg, DL.ap_dPar, DL.ap_a3, DL.ap_dPar3, DL.ap_dAug, DL.ap_dAugS, DL.ap_dFor, DL.ap_gSet, DL.ap_gTup, DL.ap_gNil, DL.ap_gCons, DL.ap_gSub, DL.tr_non, DL.tr_bl, DL.tr_int, DL.tr_str, DL.tr_tup, DL.tr_ref, DL.ad_int, DL.ad_tup, DL.ad_ref, DL.sb_int, DL.mu_int, DL.mu_tup, DL.mu_ref, DL.fd_int, DL.md_int, DL.pw_int, DL.ng_int, DL.i2_int, DL.ci_int, DL.is_bl, DL.is_nn, DL.is_in, DL.is_tn, DL.is_rn, DL.is_sn, DL.ix_tup, DL.ix_ref, DL.ixl_ref, DL.sl_tup, DL.sl_lw, DL.sl_ref, DL.st_ref, DL.ap_append, DL.ap_extend, DL.ap_popI, DL.ap_pop0, DL.ty_ref, DL.ln_tup, DL.ln_ref, DL.ab_int, DL.in_int, DL.in_bl, DL.mn_int, DL.mx_int, DL.sm_of, DL.al_ref, DL.an_ref, DL.li_of, DL.tu_of, DL.so_ref, DL.getV_0, DL.getV_s, DL.set_0, DL.set_s, DL.startD_nil, DL.startD_cons, DL.rep_0, DL.rep_s, DL.wipe_nil, DL.wipe_cons, DL.isB_bl, DL.isN_int, DL.someD_some, DL.at0, DL.at1, DL.at2, DL.at3, DL.at4, DL.at5, DL.up1_same, DL.up_up]
      refine ⟨vs, rs, [tI cs], rfl, hv.sm, line (by have := hv.len; omega), fun S12 e12 => ?_⟩
      try simp only [DL.ap_dC, DL.ap_dVar, DL.ap_dNil, DL.ap_dCons, DL.ap_dTup, DL.ap_dLst, DL.ap_dOp, DL.ap_dB, DL.ap_dChain, DL.ap_dTru, DL.ap_dAndT, DL.ap_dOrT, DL.ap_dNotT, DL.ap_dAndV, DL.ap_dOrV, DL.ap_dNotV, DL.ap_dIf, DL.ap_dUn, DL.ap_dCall, DL.ap_dNoPart, DL.ap_dPart, DL.ap_dSl, DL.ap_dBM, DL.ap_dBM0, DL.ap_dFn, DL.ap_dLc, DL.ap_dYes, DL.ap_dRg1, DL.ap_dRg2, DL.ap_dLrg, DL.ap_dTrg, DL.ap_iAny, DL.ap_iRng1, DL.ap_iRng2, DL.ap_iRng3, DL.ap_rng1P, DL.ap_rng2P, DL.ap_rng3P, DL.ap_iZip, DL.ap_dLzip, DL.ap_dZ2, DL.ap_iEnm, DL.ap_a1, DL.ap_a2, DL.ap_sqT, DL.ap_sqR, DL.ap_dNext, DL.ap_dSeq, DL.ap_dBreak, DL.ap_dCont, DL.ap_dDrop, DL.ap_dRet, DL.ap_dRetN, DL.ap_dIfS, DL.ap_dAsg, DL.ap_dPar, DL.ap_a3, DL.ap_dPar3, DL.ap_dAug, DL.ap_dAugS, DL.ap_dFor, DL.ap_gSet, DL.ap_gTup, DL.ap_gNil, DL.ap_gCons, DL.ap_gSub, DL.tr_non, DL.tr_bl, DL.tr_int, DL.tr_str, DL.tr_tup, DL.tr_ref, DL.ad_int, DL.ad_tup, DL.ad_ref, DL.sb_int, DL.mu_int, DL.mu_tup, DL.mu_ref, DL.fd_int, DL.md_int, DL.pw_int, DL.ng_int, DL.i2_int, DL.ci_int, DL.is_bl, DL.is_nn, DL.is_in, DL.is_tn, DL.is_rn, DL.is_sn, DL.ix_tup, DL.ix_ref, DL.ixl_ref, DL.sl_tup, DL.sl_lw, DL.sl_ref, DL.st_ref, DL.ap_append, DL.ap_extend, DL.ap_popI, DL.ap_pop0, DL.ty_ref, DL.ln_tup, DL.ln_ref, DL.ab_int, DL.in_int, DL.in_bl, DL.mn_int, DL.mx_int, DL.sm_of, DL.al_ref, DL.an_ref, DL.li_of, DL.tu_of, DL.so_ref, DL.getV_0, DL.getV_s, DL.set_0, DL.set_s, DL.startD_nil, DL.startD_cons, DL.rep_0, DL.rep_s, DL.wipe_nil, DL.wipe_cons, DL.isB_bl, DL.isN_int, DL.someD_some, DL.at0, DL.at1, DL.at2, DL.at3, DL.at4, DL.at5, DL.up1_same, DL.up_up]
      unfold d_law_3
      try simp only [DL.ap_dC, DL.ap_dVar, DL.ap_dNil, DL.ap_dCons, DL.ap_dTup, DL.ap_dLst, DL.ap_dOp, DL.ap_dB, DL.ap_dChain, DL.ap_dTru, DL.ap_dAndT, DL.ap_dOrT, DL.ap_dNotT, DL.ap_dAndV, DL.ap_dOrV, DL.ap_dNotV, DL.ap_dIf, DL.ap_dUn, DL.ap_dCall, DL.ap_dNoPart, DL.ap_dPart, DL.ap_dSl, DL.ap_dBM, DL.ap_dBM0, DL.ap_dFn, DL.ap_dLc, DL.ap_dYes, DL.ap_dRg1, DL.ap_dRg2, DL.ap_dLrg, DL.ap_dTrg, DL.ap_iAny, DL.ap_iRng1, DL.ap_iRng2, DL.ap_iRng3, DL.ap_rng1P, DL.ap_rng2P, DL.ap_rng3P, DL.ap_iZip, DL.ap_dLzip, DL.ap_dZ2, DL.ap_iEnm, DL.ap_a1, DL.ap_a2, DL.ap_sqT, DL.ap_sqR, DL.ap_dNext, DL.ap_dSeq, DL.ap_dBreak, DL.ap_dCont, DL.ap_dDrop, DL.ap_dRet, DL.ap_dRetN, DL.ap_dIfS, DL.ap_dAsg, DL.ap_dPar, DL.ap_a3, DL.ap_dPar3, DL.ap_dAug, DL.ap_dAugS, DL.ap_dFor, DL.ap_gSet, DL.ap_gTup, DL.ap_gNil, DL.ap_gCons, DL.ap_gSub, DL.tr_non, DL.tr_bl, DL.tr_int, DL.tr_str, DL.tr_tup, DL.tr_ref, DL.ad_int, DL.ad_tup, DL.ad_ref, DL.sb_int, DL.mu_int, DL.mu_tup, DL.mu_ref, DL.fd_int, DL.md_int, DL.pw_int, DL.ng_int, DL.i2_int, DL.ci_int, DL.is_bl, DL.is_nn, DL.is_in, DL.is_tn, DL.is_rn, DL.is_sn, DL.ix_tup, DL.ix_ref, DL.ixl_ref, DL.sl_tup, DL.sl_lw, DL.sl_ref, DL.st_ref, DL.ap_append, DL.ap_extend, DL.ap_popI, DL.ap_pop0, DL.ty_ref, DL.ln_tup, DL.ln_ref, DL.ab_int, DL.in_int, DL.in_bl, DL.mn_int, DL.mx_int, DL.sm_of, DL.al_ref, DL.an_ref, DL.li_of, DL.tu_of, DL.so_ref, DL.getV_0, DL.getV_s, DL.set_0, DL.set_s, DL.startD_nil, DL.startD_cons, DL.rep_0, DL.rep_s, DL.wipe_nil, DL.wipe_cons, DL.isB_bl, DL.isN_int, DL.someD_some, DL.at0, DL.at1, DL.at2, DL.at3, DL.at4, DL.at5, DL.up1_same, DL.up_up]
      rw [enumD_ints]
      have E12 : Ext S0 S12 := E2.trans ((((((((((e3.trans e4).trans e5).trans e6).trans e7).trans e8).trans e9).trans e10).trans e11).trans e12))
      refine ⟨by rw [List.length_map, List.length_zipIdx]; exact line (by have := hv.len; omega), lc_run encE (idleB vs (worthZ vs rs - pr)) (fun _ => D.int 1) (fun S' => Ext S12 S') (fun _ _ => trivial) _ (fun q hq S2 Y N h2 hY hN => ?_) S12 _ (Ext.refl _) fun S13 e13 p hp => ?_⟩
      · have hi := mem_zi hq
        have hi2 : q.2 < vs.length := by rw [← hl]; exact (List.getElem?_eq_some_iff.mp hi).1
        unfold encE coin
        try simp only [DL.ap_dC, DL.ap_dVar, DL.ap_dNil, DL.ap_dCons, DL.ap_dTup, DL.ap_dLst, DL.ap_dOp, DL.ap_dB, DL.ap_dChain, DL.ap_dTru, DL.ap_dAndT, DL.ap_dOrT, DL.ap_dNotT, DL.ap_dAndV, DL.ap_dOrV, DL.ap_dNotV, DL.ap_dIf, DL.ap_dUn, DL.ap_dCall, DL.ap_dNoPart, DL.ap_dPart, DL.ap_dSl, DL.ap_dBM, DL.ap_dBM0, DL.ap_dFn, DL.ap_dLc, DL.ap_dYes, DL.ap_dRg1, DL.ap_dRg2, DL.ap_dLrg, DL.ap_dTrg, DL.ap_iAny, DL.ap_iRng1, DL.ap_iRng2, DL.ap_iRng3, DL.ap_rng1P, DL.ap_rng2P, DL.ap_rng3P, DL.ap_iZip, DL.ap_dLzip, DL.ap_dZ2, DL.ap_iEnm, DL.ap_a1, DL.ap_a2, DL.ap_sqT, DL.ap_sqR, DL.ap_dNext, DL.ap_dSeq, DL.ap_dBreak, DL.ap_dCont, DL.ap_dDrop, DL.ap_dRet, DL.ap_dRetN, DL.ap_dIfS, DL.ap_dAsg, DL.ap_dPar, DL.ap_a3, DL.ap_dPar3, DL.ap_dAug, DL.ap_dAugS, DL.ap_dFor, DL.ap_gSet, DL.ap_gTup, DL.ap_gNil, DL.ap_gCons, DL.ap_gSub, DL.tr_non, DL.tr_bl, DL.tr_int, DL.tr_str, DL.tr_tup, DL.tr_ref, DL.ad_int, DL.ad_tup, DL.ad_ref, DL.sb_int, DL.mu_int, DL.mu_tup, DL.mu_ref, DL.fd_int, DL.md_int, DL.pw_int, DL.ng_int, DL.i2_int, DL.ci_int, DL.is_bl, DL.is_nn, DL.is_in, DL.is_tn, DL.is_rn, DL.is_sn, DL.ix_tup, DL.ix_ref, DL.ixl_ref, DL.sl_tup, DL.sl_lw, DL.sl_ref, DL.st_ref, DL.ap_append, DL.ap_extend, DL.ap_popI, DL.ap_pop0, DL.ty_ref, DL.ln_tup, DL.ln_ref, DL.ab_int, DL.in_int, DL.in_bl, DL.mn_int, DL.mx_int, DL.sm_of, DL.al_ref, DL.an_ref, DL.li_of, DL.tu_of, DL.so_ref, DL.getV_0, DL.getV_s, DL.set_0, DL.set_s, DL.startD_nil, DL.startD_cons, DL.rep_0, DL.rep_s, DL.wipe_nil, DL.wipe_cons, DL.isB_bl, DL.isN_int, DL.someD_some, DL.at0, DL.at1, DL.at2, DL.at3, DL.at4, DL.at5, DL.up1_same, DL.up_up]
        refine ⟨rfl, ?_⟩
        rw [at_ints hi2]
        try simp only [DL.ap_dC, DL.ap_dVar, DL.ap_dNil, DL.ap_dCons, DL.ap_dTup, DL.ap_dLst, DL.ap_dOp, DL.ap_dB, DL.ap_dChain, DL.ap_dTru, DL.ap_dAndT, DL.ap_dOrT, DL.ap_dNotT, DL.ap_dAndV, DL.ap_dOrV, DL.ap_dNotV, DL.ap_dIf, DL.ap_dUn, DL.ap_dCall, DL.ap_dNoPart, DL.ap_dPart, DL.ap_dSl, DL.ap_dBM, DL.ap_dBM0, DL.ap_dFn, DL.ap_dLc, DL.ap_dYes, DL.ap_dRg1, DL.ap_dRg2, DL.ap_dLrg, DL.ap_dTrg, DL.ap_iAny, DL.ap_iRng1, DL.ap_iRng2, DL.ap_iRng3, DL.ap_rng1P, DL.ap_rng2P, DL.ap_rng3P, DL.ap_iZip, DL.ap_dLzip, DL.ap_dZ2, DL.ap_iEnm, DL.ap_a1, DL.ap_a2, DL.ap_sqT, DL.ap_sqR, DL.ap_dNext, DL.ap_dSeq, DL.ap_dBreak, DL.ap_dCont, DL.ap_dDrop, DL.ap_dRet, DL.ap_dRetN, DL.ap_dIfS, DL.ap_dAsg, DL.ap_dPar, DL.ap_a3, DL.ap_dPar3, DL.ap_dAug, DL.ap_dAugS, DL.ap_dFor, DL.ap_gSet, DL.ap_gTup, DL.ap_gNil, DL.ap_gCons, DL.ap_gSub, DL.tr_non, DL.tr_bl, DL.tr_int, DL.tr_str, DL.tr_tup, DL.tr_ref, DL.ad_int, DL.ad_tup, DL.ad_ref, DL.sb_int, DL.mu_int, DL.mu_tup, DL.mu_ref, DL.fd_int, DL.md_int, DL.pw_int, DL.ng_int, DL.i2_int, DL.ci_int, DL.is_bl, DL.is_nn, DL.is_in, DL.is_tn, DL.is_rn, DL.is_sn, DL.ix_tup, DL.ix_ref, DL.ixl_ref, DL.sl_tup, DL.sl_lw, DL.sl_ref, DL.st_ref, DL.ap_append, DL.ap_extend, DL.ap_popI, DL.ap_pop0, DL.ty_ref, DL.ln_tup, DL.ln_ref, DL.ab_int, DL.in_int, DL.in_bl, DL.mn_int, DL.mx_int, DL.sm_of, DL.al_ref, DL.an_ref, DL.li_of, DL.tu_of, DL.so_ref, DL.getV_0, DL.getV_s, DL.set_0, DL.set_s, DL.startD_nil, DL.startD_cons, DL.rep_0, DL.rep_s, DL.wipe_nil, DL.wipe_cons, DL.isB_bl, DL.isN_int, DL.someD_some, DL.at0, DL.at1, DL.at2, DL.at3, DL.at4, DL.at5, DL.up1_same, DL.up_up]
        by_cases c : 0 < q.1
        · rw [if_pos (decide_eq_true c)]
          by_cases c2 : vs.getD q.2 0 ≤ worthZ vs rs - pr
          · rw [if_pos (decide_eq_true c2)]
            exact hY (by unfold idleB; rw [decide_eq_true c, decide_eq_true c2]; rfl) S2 h2
          · rw [if_neg (by simpa using c2)]
            exact hN (by unfold idleB; rw [decide_eq_true c, decide_eq_false c2]; rfl) S2 h2
        · rw [if_neg (by simpa using c)]
          rw [if_neg Bool.false_ne_true]
          exact hN (by unfold idleB; rw [decide_eq_false c]; rfl) S2 h2
      · refine ⟨line (show 0 ≤ 1000000 by decide), fun q3 hq3 => ?_⟩
        have n2 : p ≠ q3 := fun e => by rw [e, up1_same] at hq3; cases hq3
        refine eq_RR (xs := (List.filter _ _).map _) (ys := []) (by rw [LA, up1_ne n2]; exact up1_same) up1_same (by simp [isDs_all, isD]) rfl ?_
        rw [eqDs_nil]
        refine ne_bls ?_
        have ef : ((rs.zipIdx.filter (idleB vs (worthZ vs rs - pr))).map fun _ => D.int 1).isEmpty = isTight vs pr (tI rs) := by
          unfold isTight
          rw [c, Bool.true_and, rowOf_tI, List.isEmpty_map]
          unfold idle
          cases rs.zipIdx.filter (idleB vs (worthZ vs rs - pr)) <;> rfl
        rw [ef, decide_eq_true rfl]
        try simp only [DL.ap_dC, DL.ap_dVar, DL.ap_dNil, DL.ap_dCons, DL.ap_dTup, DL.ap_dLst, DL.ap_dOp, DL.ap_dB, DL.ap_dChain, DL.ap_dTru, DL.ap_dAndT, DL.ap_dOrT, DL.ap_dNotT, DL.ap_dAndV, DL.ap_dOrV, DL.ap_dNotV, DL.ap_dIf, DL.ap_dUn, DL.ap_dCall, DL.ap_dNoPart, DL.ap_dPart, DL.ap_dSl, DL.ap_dBM, DL.ap_dBM0, DL.ap_dFn, DL.ap_dLc, DL.ap_dYes, DL.ap_dRg1, DL.ap_dRg2, DL.ap_dLrg, DL.ap_dTrg, DL.ap_iAny, DL.ap_iRng1, DL.ap_iRng2, DL.ap_iRng3, DL.ap_rng1P, DL.ap_rng2P, DL.ap_rng3P, DL.ap_iZip, DL.ap_dLzip, DL.ap_dZ2, DL.ap_iEnm, DL.ap_a1, DL.ap_a2, DL.ap_sqT, DL.ap_sqR, DL.ap_dNext, DL.ap_dSeq, DL.ap_dBreak, DL.ap_dCont, DL.ap_dDrop, DL.ap_dRet, DL.ap_dRetN, DL.ap_dIfS, DL.ap_dAsg, DL.ap_dPar, DL.ap_a3, DL.ap_dPar3, DL.ap_dAug, DL.ap_dAugS, DL.ap_dFor, DL.ap_gSet, DL.ap_gTup, DL.ap_gNil, DL.ap_gCons, DL.ap_gSub, DL.tr_non, DL.tr_bl, DL.tr_int, DL.tr_str, DL.tr_tup, DL.tr_ref, DL.ad_int, DL.ad_tup, DL.ad_ref, DL.sb_int, DL.mu_int, DL.mu_tup, DL.mu_ref, DL.fd_int, DL.md_int, DL.pw_int, DL.ng_int, DL.i2_int, DL.ci_int, DL.is_bl, DL.is_nn, DL.is_in, DL.is_tn, DL.is_rn, DL.is_sn, DL.ix_tup, DL.ix_ref, DL.ixl_ref, DL.sl_tup, DL.sl_lw, DL.sl_ref, DL.st_ref, DL.ap_append, DL.ap_extend, DL.ap_popI, DL.ap_pop0, DL.ty_ref, DL.ln_tup, DL.ln_ref, DL.ab_int, DL.in_int, DL.in_bl, DL.mn_int, DL.mx_int, DL.sm_of, DL.al_ref, DL.an_ref, DL.li_of, DL.tu_of, DL.so_ref, DL.getV_0, DL.getV_s, DL.set_0, DL.set_s, DL.startD_nil, DL.startD_cons, DL.rep_0, DL.rep_s, DL.wipe_nil, DL.wipe_cons, DL.isB_bl, DL.isN_int, DL.someD_some, DL.at0, DL.at1, DL.at2, DL.at3, DL.at4, DL.at5, DL.up1_same, DL.up_up]
        rw [if_neg (by decide)]
        exact hK _ _ _ _ _ _ _ _ _ (E12.trans ((e13.trans (Ext.new hp)).trans (Ext.new hq3)))
    · have c' : isPay vs pr x = false := by simpa using c
      rw [c']
      rw [if_pos (by decide)]
      exact hK _ _ _ _ _ _ _ _ _ E2
theorem for_id {chk : Sto → Prop} {g : DG} {tb : DS} {N : DEnds} (xs : List D) (P : Nat → Nv → Sto → Prop)
    (turn : ∀ i x, xs[i]? = some x → ∀ (ρ : Nv) (S : Sto) (K : Nv → Sto → Prop), P i ρ S → (∀ ρ' S', P (i + 1) ρ' S' → K ρ' S') → chk S ∧ g x ρ S fun ρ' S' => tb { N with nx := K, ct := K, bk := N.nx } ρ' S')
    (fin : ∀ ρ S, P xs.length ρ S → chk S ∧ N.nx ρ S) {ρ : Nv} {S : Sto} (h : P 0 ρ S) : forD chk g tb N xs ρ S := by
  have := for_inv (chk := chk) (g := g) (tb := tb) (N := N) id xs P turn fin h
  rwa [List.map_id] at this
theorem bag_any {a c : Addr} {S S' : Sto} (hb : Bag a c S') (e : ExtB a S S') : ∀ b ds, S b = some (.lst ds) → ∃ ds', S' b = some (.lst ds') := fun b ds h => by
  by_cases hba : b = a
  · subst hba
    obtain ⟨_, _, _, _, ha, _⟩ := hb
    exact ⟨_, ha⟩
  · exact ⟨ds, e b _ hba h⟩
theorem pure_law : ∀ ds S Q EP, sp_law ds S Q EP → d_law EP { nx := fun _ S' => Q .non S', rt := Q } (startD 19 ds) S := by
  rintro ds S Q EP ⟨ns, rfl, h⟩
  unfold d_law
  try simp only [DL.ap_dC, DL.ap_dVar, DL.ap_dNil, DL.ap_dCons, DL.ap_dTup, DL.ap_dLst, DL.ap_dOp, DL.ap_dB, DL.ap_dChain, DL.ap_dTru, DL.ap_dAndT, DL.ap_dOrT, DL.ap_dNotT, DL.ap_dAndV, DL.ap_dOrV, DL.ap_dNotV, DL.ap_dIf, DL.ap_dUn, DL.ap_dCall, DL.ap_dNoPart, DL.ap_dPart, DL.ap_dSl, DL.ap_dBM, DL.ap_dBM0, DL.ap_dFn, DL.ap_dLc, DL.ap_dYes, DL.ap_dRg1, DL.ap_dRg2, DL.ap_dLrg, DL.ap_dTrg, DL.ap_iAny, DL.ap_iRng1, DL.ap_iRng2, DL.ap_iRng3, DL.ap_rng1P, DL.ap_rng2P, DL.ap_rng3P, DL.ap_iZip, DL.ap_dLzip, DL.ap_dZ2, DL.ap_iEnm, DL.ap_a1, DL.ap_a2, DL.ap_sqT, DL.ap_sqR, DL.ap_dNext, DL.ap_dSeq, DL.ap_dBreak, DL.ap_dCont, DL.ap_dDrop, DL.ap_dRet, DL.ap_dRetN, DL.ap_dIfS, DL.ap_dAsg, DL.ap_dPar, DL.ap_a3, DL.ap_dPar3, DL.ap_dAug, DL.ap_dAugS, DL.ap_dFor, DL.ap_gSet, DL.ap_gTup, DL.ap_gNil, DL.ap_gCons, DL.ap_gSub, DL.tr_non, DL.tr_bl, DL.tr_int, DL.tr_str, DL.tr_tup, DL.tr_ref, DL.ad_int, DL.ad_tup, DL.ad_ref, DL.sb_int, DL.mu_int, DL.mu_tup, DL.mu_ref, DL.fd_int, DL.md_int, DL.pw_int, DL.ng_int, DL.i2_int, DL.ci_int, DL.is_bl, DL.is_nn, DL.is_in, DL.is_tn, DL.is_rn, DL.is_sn, DL.ix_tup, DL.ix_ref, DL.ixl_ref, DL.sl_tup, DL.sl_lw, DL.sl_ref, DL.st_ref, DL.ap_append, DL.ap_extend, DL.ap_popI, DL.ap_pop0, DL.ty_ref, DL.ln_tup, DL.ln_ref, DL.ab_int, DL.in_int, DL.in_bl, DL.mn_int, DL.mx_int, DL.sm_of, DL.al_ref, DL.an_ref, DL.li_of, DL.tu_of, DL.so_ref, DL.getV_0, DL.getV_s, DL.set_0, DL.set_s, DL.startD_nil, DL.startD_cons, DL.rep_0, DL.rep_s, DL.wipe_nil, DL.wipe_cons, DL.isB_bl, DL.isN_int, DL.someD_some, DL.at0, DL.at1, DL.at2, DL.at3, DL.at4, DL.at5, DL.up1_same, DL.up_up]
  refine ⟨ns, rfl, fun a c S1 e1 na nc hb => ?_⟩
  unfold d_law_18
  try simp only [DL.ap_dC, DL.ap_dVar, DL.ap_dNil, DL.ap_dCons, DL.ap_dTup, DL.ap_dLst, DL.ap_dOp, DL.ap_dB, DL.ap_dChain, DL.ap_dTru, DL.ap_dAndT, DL.ap_dOrT, DL.ap_dNotT, DL.ap_dAndV, DL.ap_dOrV, DL.ap_dNotV, DL.ap_dIf, DL.ap_dUn, DL.ap_dCall, DL.ap_dNoPart, DL.ap_dPart, DL.ap_dSl, DL.ap_dBM, DL.ap_dBM0, DL.ap_dFn, DL.ap_dLc, DL.ap_dYes, DL.ap_dRg1, DL.ap_dRg2, DL.ap_dLrg, DL.ap_dTrg, DL.ap_iAny, DL.ap_iRng1, DL.ap_iRng2, DL.ap_iRng3, DL.ap_rng1P, DL.ap_rng2P, DL.ap_rng3P, DL.ap_iZip, DL.ap_dLzip, DL.ap_dZ2, DL.ap_iEnm, DL.ap_a1, DL.ap_a2, DL.ap_sqT, DL.ap_sqR, DL.ap_dNext, DL.ap_dSeq, DL.ap_dBreak, DL.ap_dCont, DL.ap_dDrop, DL.ap_dRet, DL.ap_dRetN, DL.ap_dIfS, DL.ap_dAsg, DL.ap_dPar, DL.ap_a3, DL.ap_dPar3, DL.ap_dAug, DL.ap_dAugS, DL.ap_dFor, DL.ap_gSet, DL.ap_gTup, DL.ap_gNil, DL.ap_gCons, DL.ap_gSub, DL.tr_non, DL.tr_bl, DL.tr_int, DL.tr_str, DL.tr_tup, DL.tr_ref, DL.ad_int, DL.ad_tup, DL.ad_ref, DL.sb_int, DL.mu_int, DL.mu_tup, DL.mu_ref, DL.fd_int, DL.md_int, DL.pw_int, DL.ng_int, DL.i2_int, DL.ci_int, DL.is_bl, DL.is_nn, DL.is_in, DL.is_tn, DL.is_rn, DL.is_sn, DL.ix_tup, DL.ix_ref, DL.ixl_ref, DL.sl_tup, DL.sl_lw, DL.sl_ref, DL.st_ref, DL.ap_append, DL.ap_extend, DL.ap_popI, DL.ap_pop0, DL.ty_ref, DL.ln_tup, DL.ln_ref, DL.ab_int, DL.in_int, DL.in_bl, DL.mn_int, DL.mx_int, DL.sm_of, DL.al_ref, DL.an_ref, DL.li_of, DL.tu_of, DL.so_ref, DL.getV_0, DL.getV_s, DL.set_0, DL.set_s, DL.startD_nil, DL.startD_cons, DL.rep_0, DL.rep_s, DL.wipe_nil, DL.wipe_cons, DL.isB_bl, DL.isN_int, DL.someD_some, DL.at0, DL.at1, DL.at2, DL.at3, DL.at4, DL.at5, DL.up1_same, DL.up_up]
  refine ⟨by decide, by decide, ?_⟩
  refine for_inv (fun i : Nat => D.int (0 + (i : Nat))) (List.range 5) (fun i ρ S' => ∃ t co ro ke pr th at_ od tg io ag ti to le du ki ma, ρ = slots (some (.lw (ns.map D.int))) (some (.ref a)) t co ro ke pr th at_ od tg io ag ti to le du ki ma ∧ Bag a c S') ?_ ?_ ⟨_, _, _, _, _, _, _, _, _, _, _, _, _, _, _, _, _, rfl, hb⟩
  · rintro i j hj ρ S2 K ⟨t, co, ro, ke, pr, th, at_, od, tg, io, ag, ti, to, le, du, ki, ma, rfl, hb2⟩ hK
    refine ⟨trivial, ?_⟩
    try simp only [DL.ap_dC, DL.ap_dVar, DL.ap_dNil, DL.ap_dCons, DL.ap_dTup, DL.ap_dLst, DL.ap_dOp, DL.ap_dB, DL.ap_dChain, DL.ap_dTru, DL.ap_dAndT, DL.ap_dOrT, DL.ap_dNotT, DL.ap_dAndV, DL.ap_dOrV, DL.ap_dNotV, DL.ap_dIf, DL.ap_dUn, DL.ap_dCall, DL.ap_dNoPart, DL.ap_dPart, DL.ap_dSl, DL.ap_dBM, DL.ap_dBM0, DL.ap_dFn, DL.ap_dLc, DL.ap_dYes, DL.ap_dRg1, DL.ap_dRg2, DL.ap_dLrg, DL.ap_dTrg, DL.ap_iAny, DL.ap_iRng1, DL.ap_iRng2, DL.ap_iRng3, DL.ap_rng1P, DL.ap_rng2P, DL.ap_rng3P, DL.ap_iZip, DL.ap_dLzip, DL.ap_dZ2, DL.ap_iEnm, DL.ap_a1, DL.ap_a2, DL.ap_sqT, DL.ap_sqR, DL.ap_dNext, DL.ap_dSeq, DL.ap_dBreak, DL.ap_dCont, DL.ap_dDrop, DL.ap_dRet, DL.ap_dRetN, DL.ap_dIfS, DL.ap_dAsg, DL.ap_dPar, DL.ap_a3, DL.ap_dPar3, DL.ap_dAug, DL.ap_dAugS, DL.ap_dFor, DL.ap_gSet, DL.ap_gTup, DL.ap_gNil, DL.ap_gCons, DL.ap_gSub, DL.tr_non, DL.tr_bl, DL.tr_int, DL.tr_str, DL.tr_tup, DL.tr_ref, DL.ad_int, DL.ad_tup, DL.ad_ref, DL.sb_int, DL.mu_int, DL.mu_tup, DL.mu_ref, DL.fd_int, DL.md_int, DL.pw_int, DL.ng_int, DL.i2_int, DL.ci_int, DL.is_bl, DL.is_nn, DL.is_in, DL.is_tn, DL.is_rn, DL.is_sn, DL.ix_tup, DL.ix_ref, DL.ixl_ref, DL.sl_tup, DL.sl_lw, DL.sl_ref, DL.st_ref, DL.ap_append, DL.ap_extend, DL.ap_popI, DL.ap_pop0, DL.ty_ref, DL.ln_tup, DL.ln_ref, DL.ab_int, DL.in_int, DL.in_bl, DL.mn_int, DL.mx_int, DL.sm_of, DL.al_ref, DL.an_ref, DL.li_of, DL.tu_of, DL.so_ref, DL.getV_0, DL.getV_s, DL.set_0, DL.set_s, DL.startD_nil, DL.startD_cons, DL.rep_0, DL.rep_s, DL.wipe_nil, DL.wipe_cons, DL.isB_bl, DL.isN_int, DL.someD_some, DL.at0, DL.at1, DL.at2, DL.at3, DL.at4, DL.at5, DL.up1_same, DL.up_up]
    refine ⟨a, c, 4, rfl, hb2, by decide, by decide, fun v S3 v0 v1 hb3 e3 => ?_⟩
    obtain ⟨k, rfl⟩ := Int.eq_ofNat_of_zero_le v0
    try simp only [DL.ap_dC, DL.ap_dVar, DL.ap_dNil, DL.ap_dCons, DL.ap_dTup, DL.ap_dLst, DL.ap_dOp, DL.ap_dB, DL.ap_dChain, DL.ap_dTru, DL.ap_dAndT, DL.ap_dOrT, DL.ap_dNotT, DL.ap_dAndV, DL.ap_dOrV, DL.ap_dNotV, DL.ap_dIf, DL.ap_dUn, DL.ap_dCall, DL.ap_dNoPart, DL.ap_dPart, DL.ap_dSl, DL.ap_dBM, DL.ap_dBM0, DL.ap_dFn, DL.ap_dLc, DL.ap_dYes, DL.ap_dRg1, DL.ap_dRg2, DL.ap_dLrg, DL.ap_dTrg, DL.ap_iAny, DL.ap_iRng1, DL.ap_iRng2, DL.ap_iRng3, DL.ap_rng1P, DL.ap_rng2P, DL.ap_rng3P, DL.ap_iZip, DL.ap_dLzip, DL.ap_dZ2, DL.ap_iEnm, DL.ap_a1, DL.ap_a2, DL.ap_sqT, DL.ap_sqR, DL.ap_dNext, DL.ap_dSeq, DL.ap_dBreak, DL.ap_dCont, DL.ap_dDrop, DL.ap_dRet, DL.ap_dRetN, DL.ap_dIfS, DL.ap_dAsg, DL.ap_dPar, DL.ap_a3, DL.ap_dPar3, DL.ap_dAug, DL.ap_dAugS, DL.ap_dFor, DL.ap_gSet, DL.ap_gTup, DL.ap_gNil, DL.ap_gCons, DL.ap_gSub, DL.tr_non, DL.tr_bl, DL.tr_int, DL.tr_str, DL.tr_tup, DL.tr_ref, DL.ad_int, DL.ad_tup, DL.ad_ref, DL.sb_int, DL.mu_int, DL.mu_tup, DL.mu_ref, DL.fd_int, DL.md_int, DL.pw_int, DL.ng_int, DL.i2_int, DL.ci_int, DL.is_bl, DL.is_nn, DL.is_in, DL.is_tn, DL.is_rn, DL.is_sn, DL.ix_tup, DL.ix_ref, DL.ixl_ref, DL.sl_tup, DL.sl_lw, DL.sl_ref, DL.st_ref, DL.ap_append, DL.ap_extend, DL.ap_popI, DL.ap_pop0, DL.ty_ref, DL.ln_tup, DL.ln_ref, DL.ab_int, DL.in_int, DL.in_bl, DL.mn_int, DL.mx_int, DL.sm_of, DL.al_ref, DL.an_ref, DL.li_of, DL.tu_of, DL.so_ref, DL.getV_0, DL.getV_s, DL.set_0, DL.set_s, DL.startD_nil, DL.startD_cons, DL.rep_0, DL.rep_s, DL.wipe_nil, DL.wipe_cons, DL.isB_bl, DL.isN_int, DL.someD_some, DL.at0, DL.at1, DL.at2, DL.at3, DL.at4, DL.at5, DL.up1_same, DL.up_up]
    rw [show (1 : Int) + ((k : Nat) : Int) = ((k + 1 : Nat) : Int) by omega]
    refine ⟨a, c, k + 1, 15, 6, rfl, hb3, by omega, by omega, by decide, by decide, by decide, fun vs cs S4 ok hb4 e4 => ?_⟩
    have hv : Vok vs := ⟨fun v hv => by have := ok.pos v hv; omega, by rw [ok.lv]; omega⟩
    have hc : cs.length ≤ 1000 ∧ ∀ c ∈ cs, c.natAbs < 2 ^ 1000 := ⟨by rw [ok.lc]; omega, fun c hc => by have := ok.cap c hc; exact Nat.lt_of_lt_of_le (show c.natAbs < 2 ^ 10 by omega) (by decide)⟩
    unfold d_law_17
    try simp only [DL.ap_dC, DL.ap_dVar, DL.ap_dNil, DL.ap_dCons, DL.ap_dTup, DL.ap_dLst, DL.ap_dOp, DL.ap_dB, DL.ap_dChain, DL.ap_dTru, DL.ap_dAndT, DL.ap_dOrT, DL.ap_dNotT, DL.ap_dAndV, DL.ap_dOrV, DL.ap_dNotV, DL.ap_dIf, DL.ap_dUn, DL.ap_dCall, DL.ap_dNoPart, DL.ap_dPart, DL.ap_dSl, DL.ap_dBM, DL.ap_dBM0, DL.ap_dFn, DL.ap_dLc, DL.ap_dYes, DL.ap_dRg1, DL.ap_dRg2, DL.ap_dLrg, DL.ap_dTrg, DL.ap_iAny, DL.ap_iRng1, DL.ap_iRng2, DL.ap_iRng3, DL.ap_rng1P, DL.ap_rng2P, DL.ap_rng3P, DL.ap_iZip, DL.ap_dLzip, DL.ap_dZ2, DL.ap_iEnm, DL.ap_a1, DL.ap_a2, DL.ap_sqT, DL.ap_sqR, DL.ap_dNext, DL.ap_dSeq, DL.ap_dBreak, DL.ap_dCont, DL.ap_dDrop, DL.ap_dRet, DL.ap_dRetN, DL.ap_dIfS, DL.ap_dAsg, DL.ap_dPar, DL.ap_a3, DL.ap_dPar3, DL.ap_dAug, DL.ap_dAugS, DL.ap_dFor, DL.ap_gSet, DL.ap_gTup, DL.ap_gNil, DL.ap_gCons, DL.ap_gSub, DL.tr_non, DL.tr_bl, DL.tr_int, DL.tr_str, DL.tr_tup, DL.tr_ref, DL.ad_int, DL.ad_tup, DL.ad_ref, DL.sb_int, DL.mu_int, DL.mu_tup, DL.mu_ref, DL.fd_int, DL.md_int, DL.pw_int, DL.ng_int, DL.i2_int, DL.ci_int, DL.is_bl, DL.is_nn, DL.is_in, DL.is_tn, DL.is_rn, DL.is_sn, DL.ix_tup, DL.ix_ref, DL.ixl_ref, DL.sl_tup, DL.sl_lw, DL.sl_ref, DL.st_ref, DL.ap_append, DL.ap_extend, DL.ap_popI, DL.ap_pop0, DL.ty_ref, DL.ln_tup, DL.ln_ref, DL.ab_int, DL.in_int, DL.in_bl, DL.mn_int, DL.mx_int, DL.sm_of, DL.al_ref, DL.an_ref, DL.li_of, DL.tu_of, DL.so_ref, DL.getV_0, DL.getV_s, DL.set_0, DL.set_s, DL.startD_nil, DL.startD_cons, DL.rep_0, DL.rep_s, DL.wipe_nil, DL.wipe_cons, DL.isB_bl, DL.isN_int, DL.someD_some, DL.at0, DL.at1, DL.at2, DL.at3, DL.at4, DL.at5, DL.up1_same, DL.up_up]
    refine ⟨a, c, vs.map D.int, [tI cs], 5, rfl, hb4, by rw [List.length_map]; exact line (by have := hv.len; omega), by decide, by decide, fun rs S5 hl hn hb5 e5 => ?_⟩
    rw [List.length_map] at hl
    have hr : isR (coin vs cs) = true := coin_repr (fun v h => log_small (by have := hv.pos v h; exact Nat.lt_of_lt_of_le (show v.natAbs < 2 ^ 20 by omega) (by decide))) (fun v h => log_small (hc.2 v h))
    refine repr_DD (xs := [tI vs, tI cs]) (coin_data vs cs) hr (coin_w hv.len hc.1) ?_
    try simp only [DL.ap_dC, DL.ap_dVar, DL.ap_dNil, DL.ap_dCons, DL.ap_dTup, DL.ap_dLst, DL.ap_dOp, DL.ap_dB, DL.ap_dChain, DL.ap_dTru, DL.ap_dAndT, DL.ap_dOrT, DL.ap_dNotT, DL.ap_dAndV, DL.ap_dOrV, DL.ap_dNotV, DL.ap_dIf, DL.ap_dUn, DL.ap_dCall, DL.ap_dNoPart, DL.ap_dPart, DL.ap_dSl, DL.ap_dBM, DL.ap_dBM0, DL.ap_dFn, DL.ap_dLc, DL.ap_dYes, DL.ap_dRg1, DL.ap_dRg2, DL.ap_dLrg, DL.ap_dTrg, DL.ap_iAny, DL.ap_iRng1, DL.ap_iRng2, DL.ap_iRng3, DL.ap_rng1P, DL.ap_rng2P, DL.ap_rng3P, DL.ap_iZip, DL.ap_dLzip, DL.ap_dZ2, DL.ap_iEnm, DL.ap_a1, DL.ap_a2, DL.ap_sqT, DL.ap_sqR, DL.ap_dNext, DL.ap_dSeq, DL.ap_dBreak, DL.ap_dCont, DL.ap_dDrop, DL.ap_dRet, DL.ap_dRetN, DL.ap_dIfS, DL.ap_dAsg, DL.ap_dPar, DL.ap_a3, DL.ap_dPar3, DL.ap_dAug, DL.ap_dAugS, DL.ap_dFor, DL.ap_gSet, DL.ap_gTup, DL.ap_gNil, DL.ap_gCons, DL.ap_gSub, DL.tr_non, DL.tr_bl, DL.tr_int, DL.tr_str, DL.tr_tup, DL.tr_ref, DL.ad_int, DL.ad_tup, DL.ad_ref, DL.sb_int, DL.mu_int, DL.mu_tup, DL.mu_ref, DL.fd_int, DL.md_int, DL.pw_int, DL.ng_int, DL.i2_int, DL.ci_int, DL.is_bl, DL.is_nn, DL.is_in, DL.is_tn, DL.is_rn, DL.is_sn, DL.ix_tup, DL.ix_ref, DL.ixl_ref, DL.sl_tup, DL.sl_lw, DL.sl_ref, DL.st_ref, DL.ap_append, DL.ap_extend, DL.ap_popI, DL.ap_pop0, DL.ty_ref, DL.ln_tup, DL.ln_ref, DL.ab_int, DL.in_int, DL.in_bl, DL.mn_int, DL.mx_int, DL.sm_of, DL.al_ref, DL.an_ref, DL.li_of, DL.tu_of, DL.so_ref, DL.getV_0, DL.getV_s, DL.set_0, DL.set_s, DL.startD_nil, DL.startD_cons, DL.rep_0, DL.rep_s, DL.wipe_nil, DL.wipe_cons, DL.isB_bl, DL.isN_int, DL.someD_some, DL.at0, DL.at1, DL.at2, DL.at3, DL.at4, DL.at5, DL.up1_same, DL.up_up]
    unfold d_law_16
    try simp only [DL.ap_dC, DL.ap_dVar, DL.ap_dNil, DL.ap_dCons, DL.ap_dTup, DL.ap_dLst, DL.ap_dOp, DL.ap_dB, DL.ap_dChain, DL.ap_dTru, DL.ap_dAndT, DL.ap_dOrT, DL.ap_dNotT, DL.ap_dAndV, DL.ap_dOrV, DL.ap_dNotV, DL.ap_dIf, DL.ap_dUn, DL.ap_dCall, DL.ap_dNoPart, DL.ap_dPart, DL.ap_dSl, DL.ap_dBM, DL.ap_dBM0, DL.ap_dFn, DL.ap_dLc, DL.ap_dYes, DL.ap_dRg1, DL.ap_dRg2, DL.ap_dLrg, DL.ap_dTrg, DL.ap_iAny, DL.ap_iRng1, DL.ap_iRng2, DL.ap_iRng3, DL.ap_rng1P, DL.ap_rng2P, DL.ap_rng3P, DL.ap_iZip, DL.ap_dLzip, DL.ap_dZ2, DL.ap_iEnm, DL.ap_a1, DL.ap_a2, DL.ap_sqT, DL.ap_sqR, DL.ap_dNext, DL.ap_dSeq, DL.ap_dBreak, DL.ap_dCont, DL.ap_dDrop, DL.ap_dRet, DL.ap_dRetN, DL.ap_dIfS, DL.ap_dAsg, DL.ap_dPar, DL.ap_a3, DL.ap_dPar3, DL.ap_dAug, DL.ap_dAugS, DL.ap_dFor, DL.ap_gSet, DL.ap_gTup, DL.ap_gNil, DL.ap_gCons, DL.ap_gSub, DL.tr_non, DL.tr_bl, DL.tr_int, DL.tr_str, DL.tr_tup, DL.tr_ref, DL.ad_int, DL.ad_tup, DL.ad_ref, DL.sb_int, DL.mu_int, DL.mu_tup, DL.mu_ref, DL.fd_int, DL.md_int, DL.pw_int, DL.ng_int, DL.i2_int, DL.ci_int, DL.is_bl, DL.is_nn, DL.is_in, DL.is_tn, DL.is_rn, DL.is_sn, DL.ix_tup, DL.ix_ref, DL.ixl_ref, DL.sl_tup, DL.sl_lw, DL.sl_ref, DL.st_ref, DL.ap_append, DL.ap_extend, DL.ap_popI, DL.ap_pop0, DL.ty_ref, DL.ln_tup, DL.ln_ref, DL.ab_int, DL.in_int, DL.in_bl, DL.mn_int, DL.mx_int, DL.sm_of, DL.al_ref, DL.an_ref, DL.li_of, DL.tu_of, DL.so_ref, DL.getV_0, DL.getV_s, DL.set_0, DL.set_s, DL.startD_nil, DL.startD_cons, DL.rep_0, DL.rep_s, DL.wipe_nil, DL.wipe_cons, DL.isB_bl, DL.isN_int, DL.someD_some, DL.at0, DL.at1, DL.at2, DL.at3, DL.at4, DL.at5, DL.up1_same, DL.up_up]
    refine ⟨vs, rs, [tI cs], rfl, hv.sm, line (by have := hv.len; omega), fun S6 e6 => ?_⟩
    try simp only [DL.ap_dC, DL.ap_dVar, DL.ap_dNil, DL.ap_dCons, DL.ap_dTup, DL.ap_dLst, DL.ap_dOp, DL.ap_dB, DL.ap_dChain, DL.ap_dTru, DL.ap_dAndT, DL.ap_dOrT, DL.ap_dNotT, DL.ap_dAndV, DL.ap_dOrV, DL.ap_dNotV, DL.ap_dIf, DL.ap_dUn, DL.ap_dCall, DL.ap_dNoPart, DL.ap_dPart, DL.ap_dSl, DL.ap_dBM, DL.ap_dBM0, DL.ap_dFn, DL.ap_dLc, DL.ap_dYes, DL.ap_dRg1, DL.ap_dRg2, DL.ap_dLrg, DL.ap_dTrg, DL.ap_iAny, DL.ap_iRng1, DL.ap_iRng2, DL.ap_iRng3, DL.ap_rng1P, DL.ap_rng2P, DL.ap_rng3P, DL.ap_iZip, DL.ap_dLzip, DL.ap_dZ2, DL.ap_iEnm, DL.ap_a1, DL.ap_a2, DL.ap_sqT, DL.ap_sqR, DL.ap_dNext, DL.ap_dSeq, DL.ap_dBreak, DL.ap_dCont, DL.ap_dDrop, DL.ap_dRet, DL.ap_dRetN, DL.ap_dIfS, DL.ap_dAsg, DL.ap_dPar, DL.ap_a3, DL.ap_dPar3, DL.ap_dAug, DL.ap_dAugS, DL.ap_dFor, DL.ap_gSet, DL.ap_gTup, DL.ap_gNil, DL.ap_gCons, DL.ap_gSub, DL.tr_non, DL.tr_bl, DL.tr_int, DL.tr_str, DL.tr_tup, DL.tr_ref, DL.ad_int, DL.ad_tup, DL.ad_ref, DL.sb_int, DL.mu_int, DL.mu_tup, DL.mu_ref, DL.fd_int, DL.md_int, DL.pw_int, DL.ng_int, DL.i2_int, DL.ci_int, DL.is_bl, DL.is_nn, DL.is_in, DL.is_tn, DL.is_rn, DL.is_sn, DL.ix_tup, DL.ix_ref, DL.ixl_ref, DL.sl_tup, DL.sl_lw, DL.sl_ref, DL.st_ref, DL.ap_append, DL.ap_extend, DL.ap_popI, DL.ap_pop0, DL.ty_ref, DL.ln_tup, DL.ln_ref, DL.ab_int, DL.in_int, DL.in_bl, DL.mn_int, DL.mx_int, DL.sm_of, DL.al_ref, DL.an_ref, DL.li_of, DL.tu_of, DL.so_ref, DL.getV_0, DL.getV_s, DL.set_0, DL.set_s, DL.startD_nil, DL.startD_cons, DL.rep_0, DL.rep_s, DL.wipe_nil, DL.wipe_cons, DL.isB_bl, DL.isN_int, DL.someD_some, DL.at0, DL.at1, DL.at2, DL.at3, DL.at4, DL.at5, DL.up1_same, DL.up_up]
    refine ⟨a, c, 40, rfl, hb5.ext e6, by decide, by decide, fun v1 S7 _ _ hb7 e7 => ?_⟩
    try simp only [DL.ap_dC, DL.ap_dVar, DL.ap_dNil, DL.ap_dCons, DL.ap_dTup, DL.ap_dLst, DL.ap_dOp, DL.ap_dB, DL.ap_dChain, DL.ap_dTru, DL.ap_dAndT, DL.ap_dOrT, DL.ap_dNotT, DL.ap_dAndV, DL.ap_dOrV, DL.ap_dNotV, DL.ap_dIf, DL.ap_dUn, DL.ap_dCall, DL.ap_dNoPart, DL.ap_dPart, DL.ap_dSl, DL.ap_dBM, DL.ap_dBM0, DL.ap_dFn, DL.ap_dLc, DL.ap_dYes, DL.ap_dRg1, DL.ap_dRg2, DL.ap_dLrg, DL.ap_dTrg, DL.ap_iAny, DL.ap_iRng1, DL.ap_iRng2, DL.ap_iRng3, DL.ap_rng1P, DL.ap_rng2P, DL.ap_rng3P, DL.ap_iZip, DL.ap_dLzip, DL.ap_dZ2, DL.ap_iEnm, DL.ap_a1, DL.ap_a2, DL.ap_sqT, DL.ap_sqR, DL.ap_dNext, DL.ap_dSeq, DL.ap_dBreak, DL.ap_dCont, DL.ap_dDrop, DL.ap_dRet, DL.ap_dRetN, DL.ap_dIfS, DL.ap_dAsg, DL.ap_dPar, DL.ap_a3, DL.ap_dPar3, DL.ap_dAug, DL.ap_dAugS, DL.ap_dFor, DL.ap_gSet, DL.ap_gTup, DL.ap_gNil, DL.ap_gCons, DL.ap_gSub, DL.tr_non, DL.tr_bl, DL.tr_int, DL.tr_str, DL.tr_tup, DL.tr_ref, DL.ad_int, DL.ad_tup, DL.ad_ref, DL.sb_int, DL.mu_int, DL.mu_tup, DL.mu_ref, DL.fd_int, DL.md_int, DL.pw_int, DL.ng_int, DL.i2_int, DL.ci_int, DL.is_bl, DL.is_nn, DL.is_in, DL.is_tn, DL.is_rn, DL.is_sn, DL.ix_tup, DL.ix_ref, DL.ixl_ref, DL.sl_tup, DL.sl_lw, DL.sl_ref, DL.st_ref, DL.ap_append, DL.ap_extend, DL.ap_popI, DL.ap_pop0, DL.ty_ref, DL.ln_tup, DL.ln_ref, DL.ab_int, DL.in_int, DL.in_bl, DL.mn_int, DL.mx_int, DL.sm_of, DL.al_ref, DL.an_ref, DL.li_of, DL.tu_of, DL.so_ref, DL.getV_0, DL.getV_s, DL.set_0, DL.set_s, DL.startD_nil, DL.startD_cons, DL.rep_0, DL.rep_s, DL.wipe_nil, DL.wipe_cons, DL.isB_bl, DL.isN_int, DL.someD_some, DL.at0, DL.at1, DL.at2, DL.at3, DL.at4, DL.at5, DL.up1_same, DL.up_up]
    refine ⟨a, c, 100, rfl, hb7, by decide, by decide, fun v2 S8 _ _ hb8 e8 => ?_⟩
    try simp only [DL.ap_dC, DL.ap_dVar, DL.ap_dNil, DL.ap_dCons, DL.ap_dTup, DL.ap_dLst, DL.ap_dOp, DL.ap_dB, DL.ap_dChain, DL.ap_dTru, DL.ap_dAndT, DL.ap_dOrT, DL.ap_dNotT, DL.ap_dAndV, DL.ap_dOrV, DL.ap_dNotV, DL.ap_dIf, DL.ap_dUn, DL.ap_dCall, DL.ap_dNoPart, DL.ap_dPart, DL.ap_dSl, DL.ap_dBM, DL.ap_dBM0, DL.ap_dFn, DL.ap_dLc, DL.ap_dYes, DL.ap_dRg1, DL.ap_dRg2, DL.ap_dLrg, DL.ap_dTrg, DL.ap_iAny, DL.ap_iRng1, DL.ap_iRng2, DL.ap_iRng3, DL.ap_rng1P, DL.ap_rng2P, DL.ap_rng3P, DL.ap_iZip, DL.ap_dLzip, DL.ap_dZ2, DL.ap_iEnm, DL.ap_a1, DL.ap_a2, DL.ap_sqT, DL.ap_sqR, DL.ap_dNext, DL.ap_dSeq, DL.ap_dBreak, DL.ap_dCont, DL.ap_dDrop, DL.ap_dRet, DL.ap_dRetN, DL.ap_dIfS, DL.ap_dAsg, DL.ap_dPar, DL.ap_a3, DL.ap_dPar3, DL.ap_dAug, DL.ap_dAugS, DL.ap_dFor, DL.ap_gSet, DL.ap_gTup, DL.ap_gNil, DL.ap_gCons, DL.ap_gSub, DL.tr_non, DL.tr_bl, DL.tr_int, DL.tr_str, DL.tr_tup, DL.tr_ref, DL.ad_int, DL.ad_tup, DL.ad_ref, DL.sb_int, DL.mu_int, DL.mu_tup, DL.mu_ref, DL.fd_int, DL.md_int, DL.pw_int, DL.ng_int, DL.i2_int, DL.ci_int, DL.is_bl, DL.is_nn, DL.is_in, DL.is_tn, DL.is_rn, DL.is_sn, DL.ix_tup, DL.ix_ref, DL.ixl_ref, DL.sl_tup, DL.sl_lw, DL.sl_ref, DL.st_ref, DL.ap_append, DL.ap_extend, DL.ap_popI, DL.ap_pop0, DL.ty_ref, DL.ln_tup, DL.ln_ref, DL.ab_int, DL.in_int, DL.in_bl, DL.mn_int, DL.mx_int, DL.sm_of, DL.al_ref, DL.an_ref, DL.li_of, DL.tu_of, DL.so_ref, DL.getV_0, DL.getV_s, DL.set_0, DL.set_s, DL.startD_nil, DL.startD_cons, DL.rep_0, DL.rep_s, DL.wipe_nil, DL.wipe_cons, DL.isB_bl, DL.isN_int, DL.someD_some, DL.at0, DL.at1, DL.at2, DL.at3, DL.at4, DL.at5, DL.up1_same, DL.up_up]
    refine ⟨line (show 5 ≤ 1000000 by decide), ?_⟩
    (intro p1 n9; generalize eS_ : up1 _ p1 _ = S9; have e9 := Ext.new_eq eS_ n9; have f9 := up_eq eS_; clear eS_)
    refine ⟨a, c, _, _, rfl, hb8.ext e9, .inr ⟨p1, rfl, f9, (hb8.ne n9).1⟩, by simp, by simp, fun d S10 hd hb10 e10 => ?_⟩
    obtain ⟨pr2, rfl⟩ : ∃ z, d = D.int z := by
      simp only [List.mem_cons, List.not_mem_nil, or_false] at hd
      rcases hd with rfl | rfl | rfl | rfl | rfl <;> exact ⟨_, rfl⟩
    try simp only [DL.ap_dC, DL.ap_dVar, DL.ap_dNil, DL.ap_dCons, DL.ap_dTup, DL.ap_dLst, DL.ap_dOp, DL.ap_dB, DL.ap_dChain, DL.ap_dTru, DL.ap_dAndT, DL.ap_dOrT, DL.ap_dNotT, DL.ap_dAndV, DL.ap_dOrV, DL.ap_dNotV, DL.ap_dIf, DL.ap_dUn, DL.ap_dCall, DL.ap_dNoPart, DL.ap_dPart, DL.ap_dSl, DL.ap_dBM, DL.ap_dBM0, DL.ap_dFn, DL.ap_dLc, DL.ap_dYes, DL.ap_dRg1, DL.ap_dRg2, DL.ap_dLrg, DL.ap_dTrg, DL.ap_iAny, DL.ap_iRng1, DL.ap_iRng2, DL.ap_iRng3, DL.ap_rng1P, DL.ap_rng2P, DL.ap_rng3P, DL.ap_iZip, DL.ap_dLzip, DL.ap_dZ2, DL.ap_iEnm, DL.ap_a1, DL.ap_a2, DL.ap_sqT, DL.ap_sqR, DL.ap_dNext, DL.ap_dSeq, DL.ap_dBreak, DL.ap_dCont, DL.ap_dDrop, DL.ap_dRet, DL.ap_dRetN, DL.ap_dIfS, DL.ap_dAsg, DL.ap_dPar, DL.ap_a3, DL.ap_dPar3, DL.ap_dAug, DL.ap_dAugS, DL.ap_dFor, DL.ap_gSet, DL.ap_gTup, DL.ap_gNil, DL.ap_gCons, DL.ap_gSub, DL.tr_non, DL.tr_bl, DL.tr_int, DL.tr_str, DL.tr_tup, DL.tr_ref, DL.ad_int, DL.ad_tup, DL.ad_ref, DL.sb_int, DL.mu_int, DL.mu_tup, DL.mu_ref, DL.fd_int, DL.md_int, DL.pw_int, DL.ng_int, DL.i2_int, DL.ci_int, DL.is_bl, DL.is_nn, DL.is_in, DL.is_tn, DL.is_rn, DL.is_sn, DL.ix_tup, DL.ix_ref, DL.ixl_ref, DL.sl_tup, DL.sl_lw, DL.sl_ref, DL.st_ref, DL.ap_append, DL.ap_extend, DL.ap_popI, DL.ap_pop0, DL.ty_ref, DL.ln_tup, DL.ln_ref, DL.ab_int, DL.in_int, DL.in_bl, DL.mn_int, DL.mx_int, DL.sm_of, DL.al_ref, DL.an_ref, DL.li_of, DL.tu_of, DL.so_ref, DL.getV_0, DL.getV_s, DL.set_0, DL.set_s, DL.startD_nil, DL.startD_cons, DL.rep_0, DL.rep_s, DL.wipe_nil, DL.wipe_cons, DL.isB_bl, DL.isN_int, DL.someD_some, DL.at0, DL.at1, DL.at2, DL.at3, DL.at4, DL.at5, DL.up1_same, DL.up_up]
    unfold d_law_15
    try simp only [DL.ap_dC, DL.ap_dVar, DL.ap_dNil, DL.ap_dCons, DL.ap_dTup, DL.ap_dLst, DL.ap_dOp, DL.ap_dB, DL.ap_dChain, DL.ap_dTru, DL.ap_dAndT, DL.ap_dOrT, DL.ap_dNotT, DL.ap_dAndV, DL.ap_dOrV, DL.ap_dNotV, DL.ap_dIf, DL.ap_dUn, DL.ap_dCall, DL.ap_dNoPart, DL.ap_dPart, DL.ap_dSl, DL.ap_dBM, DL.ap_dBM0, DL.ap_dFn, DL.ap_dLc, DL.ap_dYes, DL.ap_dRg1, DL.ap_dRg2, DL.ap_dLrg, DL.ap_dTrg, DL.ap_iAny, DL.ap_iRng1, DL.ap_iRng2, DL.ap_iRng3, DL.ap_rng1P, DL.ap_rng2P, DL.ap_rng3P, DL.ap_iZip, DL.ap_dLzip, DL.ap_dZ2, DL.ap_iEnm, DL.ap_a1, DL.ap_a2, DL.ap_sqT, DL.ap_sqR, DL.ap_dNext, DL.ap_dSeq, DL.ap_dBreak, DL.ap_dCont, DL.ap_dDrop, DL.ap_dRet, DL.ap_dRetN, DL.ap_dIfS, DL.ap_dAsg, DL.ap_dPar, DL.ap_a3, DL.ap_dPar3, DL.ap_dAug, DL.ap_dAugS, DL.ap_dFor, DL.ap_gSet, DL.ap_gTup, DL.ap_gNil, DL.ap_gCons, DL.ap_gSub, DL.tr_non, DL.tr_bl, DL.tr_int, DL.tr_str, DL.tr_tup, DL.tr_ref, DL.ad_int, DL.ad_tup, DL.ad_ref, DL.sb_int, DL.mu_int, DL.mu_tup, DL.mu_ref, DL.fd_int, DL.md_int, DL.pw_int, DL.ng_int, DL.i2_int, DL.ci_int, DL.is_bl, DL.is_nn, DL.is_in, DL.is_tn, DL.is_rn, DL.is_sn, DL.ix_tup, DL.ix_ref, DL.ixl_ref, DL.sl_tup, DL.sl_lw, DL.sl_ref, DL.st_ref, DL.ap_append, DL.ap_extend, DL.ap_popI, DL.ap_pop0, DL.ty_ref, DL.ln_tup, DL.ln_ref, DL.ab_int, DL.in_int, DL.in_bl, DL.mn_int, DL.mx_int, DL.sm_of, DL.al_ref, DL.an_ref, DL.li_of, DL.tu_of, DL.so_ref, DL.getV_0, DL.getV_s, DL.set_0, DL.set_s, DL.startD_nil, DL.startD_cons, DL.rep_0, DL.rep_s, DL.wipe_nil, DL.wipe_cons, DL.isB_bl, DL.isN_int, DL.someD_some, DL.at0, DL.at1, DL.at2, DL.at3, DL.at4, DL.at5, DL.up1_same, DL.up_up]
    have hlv := hv.len
    have hlr : rs.length ≤ 1000 := by rw [hl]; exact hlv
    have hkl : rs.length = k + 1 := hl.trans ok.lv
    refine ⟨line (show 1 ≤ 1000000 by decide), by simp, by rw [List.length_map]; omega, by rw [List.length_map]; omega, by decide, line (show 0 ≤ 1000000 by decide), ?_⟩
    (intro p2 n11; generalize eS_ : up1 _ p2 _ = S11; have e11 := Ext.new_eq eS_ n11; have f11 := up_eq eS_; clear eS_)
    refine ⟨line (show 5 ≤ 1000000 by decide), ?_⟩
    (intro p3 n12; generalize eS_ : up1 _ p3 _ = S12; have e12 := Ext.new_eq eS_ n12; have f12 := up_eq eS_; clear eS_)
    rw [List.length_map, Int.toNat_natCast] at f12
    unfold d_law_14
    try simp only [DL.ap_dC, DL.ap_dVar, DL.ap_dNil, DL.ap_dCons, DL.ap_dTup, DL.ap_dLst, DL.ap_dOp, DL.ap_dB, DL.ap_dChain, DL.ap_dTru, DL.ap_dAndT, DL.ap_dOrT, DL.ap_dNotT, DL.ap_dAndV, DL.ap_dOrV, DL.ap_dNotV, DL.ap_dIf, DL.ap_dUn, DL.ap_dCall, DL.ap_dNoPart, DL.ap_dPart, DL.ap_dSl, DL.ap_dBM, DL.ap_dBM0, DL.ap_dFn, DL.ap_dLc, DL.ap_dYes, DL.ap_dRg1, DL.ap_dRg2, DL.ap_dLrg, DL.ap_dTrg, DL.ap_iAny, DL.ap_iRng1, DL.ap_iRng2, DL.ap_iRng3, DL.ap_rng1P, DL.ap_rng2P, DL.ap_rng3P, DL.ap_iZip, DL.ap_dLzip, DL.ap_dZ2, DL.ap_iEnm, DL.ap_a1, DL.ap_a2, DL.ap_sqT, DL.ap_sqR, DL.ap_dNext, DL.ap_dSeq, DL.ap_dBreak, DL.ap_dCont, DL.ap_dDrop, DL.ap_dRet, DL.ap_dRetN, DL.ap_dIfS, DL.ap_dAsg, DL.ap_dPar, DL.ap_a3, DL.ap_dPar3, DL.ap_dAug, DL.ap_dAugS, DL.ap_dFor, DL.ap_gSet, DL.ap_gTup, DL.ap_gNil, DL.ap_gCons, DL.ap_gSub, DL.tr_non, DL.tr_bl, DL.tr_int, DL.tr_str, DL.tr_tup, DL.tr_ref, DL.ad_int, DL.ad_tup, DL.ad_ref, DL.sb_int, DL.mu_int, DL.mu_tup, DL.mu_ref, DL.fd_int, DL.md_int, DL.pw_int, DL.ng_int, DL.i2_int, DL.ci_int, DL.is_bl, DL.is_nn, DL.is_in, DL.is_tn, DL.is_rn, DL.is_sn, DL.ix_tup, DL.ix_ref, DL.ixl_ref, DL.sl_tup, DL.sl_lw, DL.sl_ref, DL.st_ref, DL.ap_append, DL.ap_extend, DL.ap_popI, DL.ap_pop0, DL.ty_ref, DL.ln_tup, DL.ln_ref, DL.ab_int, DL.in_int, DL.in_bl, DL.mn_int, DL.mx_int, DL.sm_of, DL.al_ref, DL.an_ref, DL.li_of, DL.tu_of, DL.so_ref, DL.getV_0, DL.getV_s, DL.set_0, DL.set_s, DL.startD_nil, DL.startD_cons, DL.rep_0, DL.rep_s, DL.wipe_nil, DL.wipe_cons, DL.isB_bl, DL.isN_int, DL.someD_some, DL.at0, DL.at1, DL.at2, DL.at3, DL.at4, DL.at5, DL.up1_same, DL.up_up]
    have hml : (rs.map D.int).length = rs.length := List.length_map ..
    have cl : ∀ lo hi, (cutD (rs.map D.int) lo hi).length ≤ 1000 := fun lo hi => Nat.le_trans cut_len (by rw [hml]; exact hlr)
    have hml : (rs.map D.int).length = rs.length := List.length_map ..
    have cl : ∀ lo hi, (cutD (rs.map D.int) lo hi).length ≤ 1000 := fun lo hi => Nat.le_trans cut_len (by rw [hml]; exact hlr)
    have sc : ∀ lo hi, ∀ m ∈ cutD (rs.map D.int) lo hi, Sim m = true := fun lo hi m hm => sim_ints m (cut_mem hm)
    refine ⟨line (show 1 ≤ 1000000 by decide), by rw [hml]; exact Nat.le_trans (show _ ≤ 1001 by show rs.length + 1 ≤ 1001; omega) (by decide), line (show 1 ≤ 1000000 by decide), Nat.le_trans (Nat.add_le_add_left (cl _ _) _) (show 1 + 1000 ≤ sizeLine by decide), line (show 1 ≤ 1000000 by decide), by simp, by rw [hml]; omega, by rw [hml]; omega, by decide, line (show 5 ≤ 1000000 by decide), ?_⟩
    (intro p4 n13; generalize eS_ : up1 _ p4 _ = S13; have e13 := Ext.new_eq eS_ n13; have f13 := up_eq eS_; clear eS_)
    rw [hml, Int.toNat_natCast] at f13
    refine lstAt_of (e13 _ _ f12) (lstAt_of f13 ⟨line (show 10 ≤ 1000000 by decide), ?_⟩)
    (intro p5 n14; generalize eS_ : up1 _ p5 _ = S14; have e14 := Ext.new_eq eS_ n14; have f14 := up_eq eS_; clear eS_)
    have hb13 := ((hb10.ext e11).ext e12).ext e13
    have n5 := hb13.ne n14
    have good : ∀ d ∈ [tI rs, .tup (List.replicate rs.length [D.int 0]).flatten, .non, .tup [], .ref p2] ++ [D.tup (rs.map D.int ++ [D.int 0]), .tup (cutD (rs.map D.int) (some 1) none), .str "0", .tup ([D.int 21] ++ cutD (rs.map D.int) (some 1) none), .tup (List.replicate rs.length [D.int 20]).flatten], KnT S14 d := by
      intro d hd
      simp only [List.cons_append, List.nil_append, List.mem_cons, List.not_mem_nil, or_false] at hd
      rcases hd with rfl | rfl | rfl | rfl | rfl | rfl | rfl | rfl | rfl | rfl
      · exact knT_tup (by rw [hml]; omega) sim_ints
      · exact knT_tup (by rw [rep_len]; omega) fun m hm => by rw [rep_mem hm]; rfl
      · exact knT_sim rfl
      · exact knT_tup (by decide) fun m hm => by cases hm
      · exact knT_lst (e14 _ _ (e13 _ _ (e12 _ _ f11)))
      · refine knT_tup (by rw [List.length_append, hml]; show rs.length + 1 ≤ _; omega) fun m hm => ?_
        rcases List.mem_append.mp hm with hm | hm
        · exact sim_ints m hm
        · rw [List.mem_singleton.mp hm]; rfl
      · exact knT_tup (by have := cl (some 1) none; omega) (sc _ _)
      · exact knT_sim rfl
      · refine knT_tup (by rw [List.length_cons]; have := cl (some 1) none; show _ + 1 ≤ _; omega) fun m hm => ?_
        rcases List.mem_cons.mp hm with rfl | hm
        · rfl
        · exact sc _ _ m hm
      · exact knT_tup (by rw [rep_len]; omega) fun m hm => by rw [rep_mem hm]; rfl
    generalize hD0 : [tI rs, .tup (List.replicate rs.length [D.int 0]).flatten, .non, .tup [], .ref p2] ++ [D.tup (rs.map D.int ++ [D.int 0]), .tup (cutD (rs.map D.int) (some 1) none), .str "0", .tup ([D.int 21] ++ cutD (rs.map D.int) (some 1) none), .tup (List.replicate rs.length [D.int 20]).flatten] = D0 at good f14
    have hD0l : D0.length = 10 := by rw [← hD0]; rfl
    clear hD0
    unfold d_law_13
    try simp only [DL.ap_dC, DL.ap_dVar, DL.ap_dNil, DL.ap_dCons, DL.ap_dTup, DL.ap_dLst, DL.ap_dOp, DL.ap_dB, DL.ap_dChain, DL.ap_dTru, DL.ap_dAndT, DL.ap_dOrT, DL.ap_dNotT, DL.ap_dAndV, DL.ap_dOrV, DL.ap_dNotV, DL.ap_dIf, DL.ap_dUn, DL.ap_dCall, DL.ap_dNoPart, DL.ap_dPart, DL.ap_dSl, DL.ap_dBM, DL.ap_dBM0, DL.ap_dFn, DL.ap_dLc, DL.ap_dYes, DL.ap_dRg1, DL.ap_dRg2, DL.ap_dLrg, DL.ap_dTrg, DL.ap_iAny, DL.ap_iRng1, DL.ap_iRng2, DL.ap_iRng3, DL.ap_rng1P, DL.ap_rng2P, DL.ap_rng3P, DL.ap_iZip, DL.ap_dLzip, DL.ap_dZ2, DL.ap_iEnm, DL.ap_a1, DL.ap_a2, DL.ap_sqT, DL.ap_sqR, DL.ap_dNext, DL.ap_dSeq, DL.ap_dBreak, DL.ap_dCont, DL.ap_dDrop, DL.ap_dRet, DL.ap_dRetN, DL.ap_dIfS, DL.ap_dAsg, DL.ap_dPar, DL.ap_a3, DL.ap_dPar3, DL.ap_dAug, DL.ap_dAugS, DL.ap_dFor, DL.ap_gSet, DL.ap_gTup, DL.ap_gNil, DL.ap_gCons, DL.ap_gSub, DL.tr_non, DL.tr_bl, DL.tr_int, DL.tr_str, DL.tr_tup, DL.tr_ref, DL.ad_int, DL.ad_tup, DL.ad_ref, DL.sb_int, DL.mu_int, DL.mu_tup, DL.mu_ref, DL.fd_int, DL.md_int, DL.pw_int, DL.ng_int, DL.i2_int, DL.ci_int, DL.is_bl, DL.is_nn, DL.is_in, DL.is_tn, DL.is_rn, DL.is_sn, DL.ix_tup, DL.ix_ref, DL.ixl_ref, DL.sl_tup, DL.sl_lw, DL.sl_ref, DL.st_ref, DL.ap_append, DL.ap_extend, DL.ap_popI, DL.ap_pop0, DL.ty_ref, DL.ln_tup, DL.ln_ref, DL.ab_int, DL.in_int, DL.in_bl, DL.mn_int, DL.mx_int, DL.sm_of, DL.al_ref, DL.an_ref, DL.li_of, DL.tu_of, DL.so_ref, DL.getV_0, DL.getV_s, DL.set_0, DL.set_s, DL.startD_nil, DL.startD_cons, DL.rep_0, DL.rep_s, DL.wipe_nil, DL.wipe_cons, DL.isB_bl, DL.isN_int, DL.someD_some, DL.at0, DL.at1, DL.at2, DL.at3, DL.at4, DL.at5, DL.up1_same, DL.up_up]
    refine ⟨a, c, _, rfl, hb13.ext e14, by rw [hml]; omega, by rw [hml]; omega, fun z S15 z0 z1 hb15 e15 => ?_⟩
    obtain ⟨zk, rfl⟩ := Int.eq_ofNat_of_zero_le z0
    rw [hml] at z1
    have f15 : S15 p5 = some (.lst D0) := e15 _ _ n5.1 f14
    have good15 : ∀ d ∈ D0, KnT S15 d := fun d hd => knT_any (good d hd) (bag_any hb15 e15)
    try simp only [DL.ap_dC, DL.ap_dVar, DL.ap_dNil, DL.ap_dCons, DL.ap_dTup, DL.ap_dLst, DL.ap_dOp, DL.ap_dB, DL.ap_dChain, DL.ap_dTru, DL.ap_dAndT, DL.ap_dOrT, DL.ap_dNotT, DL.ap_dAndV, DL.ap_dOrV, DL.ap_dNotV, DL.ap_dIf, DL.ap_dUn, DL.ap_dCall, DL.ap_dNoPart, DL.ap_dPart, DL.ap_dSl, DL.ap_dBM, DL.ap_dBM0, DL.ap_dFn, DL.ap_dLc, DL.ap_dYes, DL.ap_dRg1, DL.ap_dRg2, DL.ap_dLrg, DL.ap_dTrg, DL.ap_iAny, DL.ap_iRng1, DL.ap_iRng2, DL.ap_iRng3, DL.ap_rng1P, DL.ap_rng2P, DL.ap_rng3P, DL.ap_iZip, DL.ap_dLzip, DL.ap_dZ2, DL.ap_iEnm, DL.ap_a1, DL.ap_a2, DL.ap_sqT, DL.ap_sqR, DL.ap_dNext, DL.ap_dSeq, DL.ap_dBreak, DL.ap_dCont, DL.ap_dDrop, DL.ap_dRet, DL.ap_dRetN, DL.ap_dIfS, DL.ap_dAsg, DL.ap_dPar, DL.ap_a3, DL.ap_dPar3, DL.ap_dAug, DL.ap_dAugS, DL.ap_dFor, DL.ap_gSet, DL.ap_gTup, DL.ap_gNil, DL.ap_gCons, DL.ap_gSub, DL.tr_non, DL.tr_bl, DL.tr_int, DL.tr_str, DL.tr_tup, DL.tr_ref, DL.ad_int, DL.ad_tup, DL.ad_ref, DL.sb_int, DL.mu_int, DL.mu_tup, DL.mu_ref, DL.fd_int, DL.md_int, DL.pw_int, DL.ng_int, DL.i2_int, DL.ci_int, DL.is_bl, DL.is_nn, DL.is_in, DL.is_tn, DL.is_rn, DL.is_sn, DL.ix_tup, DL.ix_ref, DL.ixl_ref, DL.sl_tup, DL.sl_lw, DL.sl_ref, DL.st_ref, DL.ap_append, DL.ap_extend, DL.ap_popI, DL.ap_pop0, DL.ty_ref, DL.ln_tup, DL.ln_ref, DL.ab_int, DL.in_int, DL.in_bl, DL.mn_int, DL.mx_int, DL.sm_of, DL.al_ref, DL.an_ref, DL.li_of, DL.tu_of, DL.so_ref, DL.getV_0, DL.getV_s, DL.set_0, DL.set_s, DL.startD_nil, DL.startD_cons, DL.rep_0, DL.rep_s, DL.wipe_nil, DL.wipe_cons, DL.isB_bl, DL.isN_int, DL.someD_some, DL.at0, DL.at1, DL.at2, DL.at3, DL.at4, DL.at5, DL.up1_same, DL.up_up]
    unfold d_law_12
    try simp only [DL.ap_dC, DL.ap_dVar, DL.ap_dNil, DL.ap_dCons, DL.ap_dTup, DL.ap_dLst, DL.ap_dOp, DL.ap_dB, DL.ap_dChain, DL.ap_dTru, DL.ap_dAndT, DL.ap_dOrT, DL.ap_dNotT, DL.ap_dAndV, DL.ap_dOrV, DL.ap_dNotV, DL.ap_dIf, DL.ap_dUn, DL.ap_dCall, DL.ap_dNoPart, DL.ap_dPart, DL.ap_dSl, DL.ap_dBM, DL.ap_dBM0, DL.ap_dFn, DL.ap_dLc, DL.ap_dYes, DL.ap_dRg1, DL.ap_dRg2, DL.ap_dLrg, DL.ap_dTrg, DL.ap_iAny, DL.ap_iRng1, DL.ap_iRng2, DL.ap_iRng3, DL.ap_rng1P, DL.ap_rng2P, DL.ap_rng3P, DL.ap_iZip, DL.ap_dLzip, DL.ap_dZ2, DL.ap_iEnm, DL.ap_a1, DL.ap_a2, DL.ap_sqT, DL.ap_sqR, DL.ap_dNext, DL.ap_dSeq, DL.ap_dBreak, DL.ap_dCont, DL.ap_dDrop, DL.ap_dRet, DL.ap_dRetN, DL.ap_dIfS, DL.ap_dAsg, DL.ap_dPar, DL.ap_a3, DL.ap_dPar3, DL.ap_dAug, DL.ap_dAugS, DL.ap_dFor, DL.ap_gSet, DL.ap_gTup, DL.ap_gNil, DL.ap_gCons, DL.ap_gSub, DL.tr_non, DL.tr_bl, DL.tr_int, DL.tr_str, DL.tr_tup, DL.tr_ref, DL.ad_int, DL.ad_tup, DL.ad_ref, DL.sb_int, DL.mu_int, DL.mu_tup, DL.mu_ref, DL.fd_int, DL.md_int, DL.pw_int, DL.ng_int, DL.i2_int, DL.ci_int, DL.is_bl, DL.is_nn, DL.is_in, DL.is_tn, DL.is_rn, DL.is_sn, DL.ix_tup, DL.ix_ref, DL.ixl_ref, DL.sl_tup, DL.sl_lw, DL.sl_ref, DL.st_ref, DL.ap_append, DL.ap_extend, DL.ap_popI, DL.ap_pop0, DL.ty_ref, DL.ln_tup, DL.ln_ref, DL.ab_int, DL.in_int, DL.in_bl, DL.mn_int, DL.mx_int, DL.sm_of, DL.al_ref, DL.an_ref, DL.li_of, DL.tu_of, DL.so_ref, DL.getV_0, DL.getV_s, DL.set_0, DL.set_s, DL.startD_nil, DL.startD_cons, DL.rep_0, DL.rep_s, DL.wipe_nil, DL.wipe_cons, DL.isB_bl, DL.isN_int, DL.someD_some, DL.at0, DL.at1, DL.at2, DL.at3, DL.at4, DL.at5, DL.up1_same, DL.up_up]
    rw [show ((zk : Nat) : Int) = ((zk : Nat) : Int) from rfl, atn (by rw [List.getElem?_map, List.getElem?_eq_getElem (show zk < rs.length by omega)]; rfl)]
    try simp only [DL.ap_dC, DL.ap_dVar, DL.ap_dNil, DL.ap_dCons, DL.ap_dTup, DL.ap_dLst, DL.ap_dOp, DL.ap_dB, DL.ap_dChain, DL.ap_dTru, DL.ap_dAndT, DL.ap_dOrT, DL.ap_dNotT, DL.ap_dAndV, DL.ap_dOrV, DL.ap_dNotV, DL.ap_dIf, DL.ap_dUn, DL.ap_dCall, DL.ap_dNoPart, DL.ap_dPart, DL.ap_dSl, DL.ap_dBM, DL.ap_dBM0, DL.ap_dFn, DL.ap_dLc, DL.ap_dYes, DL.ap_dRg1, DL.ap_dRg2, DL.ap_dLrg, DL.ap_dTrg, DL.ap_iAny, DL.ap_iRng1, DL.ap_iRng2, DL.ap_iRng3, DL.ap_rng1P, DL.ap_rng2P, DL.ap_rng3P, DL.ap_iZip, DL.ap_dLzip, DL.ap_dZ2, DL.ap_iEnm, DL.ap_a1, DL.ap_a2, DL.ap_sqT, DL.ap_sqR, DL.ap_dNext, DL.ap_dSeq, DL.ap_dBreak, DL.ap_dCont, DL.ap_dDrop, DL.ap_dRet, DL.ap_dRetN, DL.ap_dIfS, DL.ap_dAsg, DL.ap_dPar, DL.ap_a3, DL.ap_dPar3, DL.ap_dAug, DL.ap_dAugS, DL.ap_dFor, DL.ap_gSet, DL.ap_gTup, DL.ap_gNil, DL.ap_gCons, DL.ap_gSub, DL.tr_non, DL.tr_bl, DL.tr_int, DL.tr_str, DL.tr_tup, DL.tr_ref, DL.ad_int, DL.ad_tup, DL.ad_ref, DL.sb_int, DL.mu_int, DL.mu_tup, DL.mu_ref, DL.fd_int, DL.md_int, DL.pw_int, DL.ng_int, DL.i2_int, DL.ci_int, DL.is_bl, DL.is_nn, DL.is_in, DL.is_tn, DL.is_rn, DL.is_sn, DL.ix_tup, DL.ix_ref, DL.ixl_ref, DL.sl_tup, DL.sl_lw, DL.sl_ref, DL.st_ref, DL.ap_append, DL.ap_extend, DL.ap_popI, DL.ap_pop0, DL.ty_ref, DL.ln_tup, DL.ln_ref, DL.ab_int, DL.in_int, DL.in_bl, DL.mn_int, DL.mx_int, DL.sm_of, DL.al_ref, DL.an_ref, DL.li_of, DL.tu_of, DL.so_ref, DL.getV_0, DL.getV_s, DL.set_0, DL.set_s, DL.startD_nil, DL.startD_cons, DL.rep_0, DL.rep_s, DL.wipe_nil, DL.wipe_cons, DL.isB_bl, DL.isN_int, DL.someD_some, DL.at0, DL.at1, DL.at2, DL.at3, DL.at4, DL.at5, DL.up1_same, DL.up_up]
    refine ⟨line (show 7 ≤ 1000000 by decide), ?_⟩
    refine for_id _ (fun i ρ S' => ∃ od ds, ρ = slots (some (.lw (ns.map D.int))) (some (.ref a)) (some (.int (0 + (j : Nat)))) (some (coin vs cs)) (some (tI rs)) (some (.str (pd (coin vs cs)).shown)) (some (.int pr2)) (some (.ref p5)) (some (.int (zk : Nat))) od tg io ag ti to le du ki ma ∧ S' p5 = some (.lst ds) ∧ (∀ d ∈ ds, KnT S' d) ∧ ds.length = 10 + i ∧ Bag a c S') ?_ ?_ ⟨_, _, rfl, f15, good15, hD0l, hb15⟩
    · rintro i2 x hx ρ S16 K2 ⟨od, ds, rfl, g1, g2, g3, g4⟩ hK2
      refine ⟨trivial, ?_⟩
      have hi7 : i2 < 7 := (List.getElem?_eq_some_iff.mp hx).1
      have hsx : Sim x = true := by
        have hm := List.mem_of_getElem? hx
        simp only [List.mem_cons, List.not_mem_nil, or_false] at hm
        rcases hm with rfl | rfl | rfl | rfl | rfl | rfl | rfl <;> rfl
      try simp only [DL.ap_dC, DL.ap_dVar, DL.ap_dNil, DL.ap_dCons, DL.ap_dTup, DL.ap_dLst, DL.ap_dOp, DL.ap_dB, DL.ap_dChain, DL.ap_dTru, DL.ap_dAndT, DL.ap_dOrT, DL.ap_dNotT, DL.ap_dAndV, DL.ap_dOrV, DL.ap_dNotV, DL.ap_dIf, DL.ap_dUn, DL.ap_dCall, DL.ap_dNoPart, DL.ap_dPart, DL.ap_dSl, DL.ap_dBM, DL.ap_dBM0, DL.ap_dFn, DL.ap_dLc, DL.ap_dYes, DL.ap_dRg1, DL.ap_dRg2, DL.ap_dLrg, DL.ap_dTrg, DL.ap_iAny, DL.ap_iRng1, DL.ap_iRng2, DL.ap_iRng3, DL.ap_rng1P, DL.ap_rng2P, DL.ap_rng3P, DL.ap_iZip, DL.ap_dLzip, DL.ap_dZ2, DL.ap_iEnm, DL.ap_a1, DL.ap_a2, DL.ap_sqT, DL.ap_sqR, DL.ap_dNext, DL.ap_dSeq, DL.ap_dBreak, DL.ap_dCont, DL.ap_dDrop, DL.ap_dRet, DL.ap_dRetN, DL.ap_dIfS, DL.ap_dAsg, DL.ap_dPar, DL.ap_a3, DL.ap_dPar3, DL.ap_dAug, DL.ap_dAugS, DL.ap_dFor, DL.ap_gSet, DL.ap_gTup, DL.ap_gNil, DL.ap_gCons, DL.ap_gSub, DL.tr_non, DL.tr_bl, DL.tr_int, DL.tr_str, DL.tr_tup, DL.tr_ref, DL.ad_int, DL.ad_tup, DL.ad_ref, DL.sb_int, DL.mu_int, DL.mu_tup, DL.mu_ref, DL.fd_int, DL.md_int, DL.pw_int, DL.ng_int, DL.i2_int, DL.ci_int, DL.is_bl, DL.is_nn, DL.is_in, DL.is_tn, DL.is_rn, DL.is_sn, DL.ix_tup, DL.ix_ref, DL.ixl_ref, DL.sl_tup, DL.sl_lw, DL.sl_ref, DL.st_ref, DL.ap_append, DL.ap_extend, DL.ap_popI, DL.ap_pop0, DL.ty_ref, DL.ln_tup, DL.ln_ref, DL.ab_int, DL.in_int, DL.in_bl, DL.mn_int, DL.mx_int, DL.sm_of, DL.al_ref, DL.an_ref, DL.li_of, DL.tu_of, DL.so_ref, DL.getV_0, DL.getV_s, DL.set_0, DL.set_s, DL.startD_nil, DL.startD_cons, DL.rep_0, DL.rep_s, DL.wipe_nil, DL.wipe_cons, DL.isB_bl, DL.isN_int, DL.someD_some, DL.at0, DL.at1, DL.at2, DL.at3, DL.at4, DL.at5, DL.up1_same, DL.up_up]
      refine ⟨lstAt_of g1 trivial, line (show 1 ≤ 1000000 by decide), Nat.le_trans (Nat.add_le_add_right (cl _ _) _) (show 1000 + 1 ≤ sizeLine by decide), ?_, lstAt_of g1 ⟨Nat.lt_of_lt_of_le (show ds.length < 100 by omega) (by decide), hK2 _ _ ⟨_, _, rfl, up1_same, fun d hd => ?_, ?_, g4.put1 n5⟩⟩⟩
      · rw [List.length_append]
        have := cl none (some (zk : Nat))
        have := cl (some ((zk : Nat) + 1)) none
        exact line (show _ ≤ 1000000 by show _ + 1 + _ ≤ _; omega)
      · have keep : ∀ b ds', S16 b = some (.lst ds') → ∃ ds'', up1 S16 p5 (.lst (ds ++ [D.tup (cutD (rs.map D.int) none (some (zk : Nat)) ++ [x] ++ cutD (rs.map D.int) (some ((zk : Nat) + 1)) none)])) b = some (.lst ds'') := fun b ds' hb => by
          by_cases e : b = p5
          · subst e; exact ⟨_, up1_same⟩
          · exact ⟨ds', by rw [up1_ne e]; exact hb⟩
        rcases List.mem_append.mp hd with hd | hd
        · exact knT_any (g2 d hd) keep
        · rw [List.mem_singleton.mp hd]
          refine knT_tup ?_ fun m hm => ?_
          · rw [List.length_append, List.length_append]
            have := cl none (some (zk : Nat))
            have := cl (some ((zk : Nat) + 1)) none
            show _ + 1 + _ ≤ _
            omega
          · rcases List.mem_append.mp hm with hm | hm
            · rcases List.mem_append.mp hm with hm | hm
              · exact sc _ _ m hm
              · rw [List.mem_singleton.mp hm]; exact hsx
            · exact sc _ _ m hm
      · rw [List.length_append, g3]; rfl
    · rintro ρ S16 ⟨od, ds, rfl, g1, g2, g3, g4⟩
      refine ⟨trivial, ?_⟩
      unfold d_law_11
      try simp only [DL.ap_dC, DL.ap_dVar, DL.ap_dNil, DL.ap_dCons, DL.ap_dTup, DL.ap_dLst, DL.ap_dOp, DL.ap_dB, DL.ap_dChain, DL.ap_dTru, DL.ap_dAndT, DL.ap_dOrT, DL.ap_dNotT, DL.ap_dAndV, DL.ap_dOrV, DL.ap_dNotV, DL.ap_dIf, DL.ap_dUn, DL.ap_dCall, DL.ap_dNoPart, DL.ap_dPart, DL.ap_dSl, DL.ap_dBM, DL.ap_dBM0, DL.ap_dFn, DL.ap_dLc, DL.ap_dYes, DL.ap_dRg1, DL.ap_dRg2, DL.ap_dLrg, DL.ap_dTrg, DL.ap_iAny, DL.ap_iRng1, DL.ap_iRng2, DL.ap_iRng3, DL.ap_rng1P, DL.ap_rng2P, DL.ap_rng3P, DL.ap_iZip, DL.ap_dLzip, DL.ap_dZ2, DL.ap_iEnm, DL.ap_a1, DL.ap_a2, DL.ap_sqT, DL.ap_sqR, DL.ap_dNext, DL.ap_dSeq, DL.ap_dBreak, DL.ap_dCont, DL.ap_dDrop, DL.ap_dRet, DL.ap_dRetN, DL.ap_dIfS, DL.ap_dAsg, DL.ap_dPar, DL.ap_a3, DL.ap_dPar3, DL.ap_dAug, DL.ap_dAugS, DL.ap_dFor, DL.ap_gSet, DL.ap_gTup, DL.ap_gNil, DL.ap_gCons, DL.ap_gSub, DL.tr_non, DL.tr_bl, DL.tr_int, DL.tr_str, DL.tr_tup, DL.tr_ref, DL.ad_int, DL.ad_tup, DL.ad_ref, DL.sb_int, DL.mu_int, DL.mu_tup, DL.mu_ref, DL.fd_int, DL.md_int, DL.pw_int, DL.ng_int, DL.i2_int, DL.ci_int, DL.is_bl, DL.is_nn, DL.is_in, DL.is_tn, DL.is_rn, DL.is_sn, DL.ix_tup, DL.ix_ref, DL.ixl_ref, DL.sl_tup, DL.sl_lw, DL.sl_ref, DL.st_ref, DL.ap_append, DL.ap_extend, DL.ap_popI, DL.ap_pop0, DL.ty_ref, DL.ln_tup, DL.ln_ref, DL.ab_int, DL.in_int, DL.in_bl, DL.mn_int, DL.mx_int, DL.sm_of, DL.al_ref, DL.an_ref, DL.li_of, DL.tu_of, DL.so_ref, DL.getV_0, DL.getV_s, DL.set_0, DL.set_s, DL.startD_nil, DL.startD_cons, DL.rep_0, DL.rep_s, DL.wipe_nil, DL.wipe_cons, DL.isB_bl, DL.isN_int, DL.someD_some, DL.at0, DL.at1, DL.at2, DL.at3, DL.at4, DL.at5, DL.up1_same, DL.up_up]
      refine lstAt_of g1 ?_
      refine for_id ds (fun i ρ S' => ∃ tg io ag ti to le du ki ma, ρ = slots (some (.lw (ns.map D.int))) (some (.ref a)) (some (.int (0 + (j : Nat)))) (some (coin vs cs)) (some (tI rs)) (some (.str (pd (coin vs cs)).shown)) (some (.int pr2)) (some (.ref p5)) (some (.int (zk : Nat))) od tg io ag ti to le du ki ma ∧ Ext S16 S') ?_ ?_ ⟨_, _, _, _, _, _, _, _, _, rfl, Ext.refl _⟩
      · rintro i2 x hx ρ S17 K2 ⟨tg, io, ag, ti, to, le, du, ki, ma, rfl, g5⟩ hK2
        refine ⟨g5 _ _ g1, ?_⟩
        exact pure_thing hv hc ((g2 x (List.mem_of_getElem? hx)).ext g5) g5 fun io ag ti to le du ki ma S' e => hK2 _ _ ⟨_, _, _, _, _, _, _, _, _, rfl, e⟩
      · rintro ρ S17 ⟨tg, io, ag, ti, to, le, du, ki, ma, rfl, g5⟩
        exact ⟨g5 _ _ g1, hK _ _ ⟨_, _, _, _, _, _, _, _, _, _, _, _, _, _, _, _, _, rfl, g4.ext g5⟩⟩
  · rintro ρ S2 ⟨t, co, ro, ke, pr, th, at_, od, tg, io, ag, ti, to, le, du, ki, ma, rfl, hb2⟩
    refine ⟨trivial, ?_⟩
    try simp only [DL.ap_dC, DL.ap_dVar, DL.ap_dNil, DL.ap_dCons, DL.ap_dTup, DL.ap_dLst, DL.ap_dOp, DL.ap_dB, DL.ap_dChain, DL.ap_dTru, DL.ap_dAndT, DL.ap_dOrT, DL.ap_dNotT, DL.ap_dAndV, DL.ap_dOrV, DL.ap_dNotV, DL.ap_dIf, DL.ap_dUn, DL.ap_dCall, DL.ap_dNoPart, DL.ap_dPart, DL.ap_dSl, DL.ap_dBM, DL.ap_dBM0, DL.ap_dFn, DL.ap_dLc, DL.ap_dYes, DL.ap_dRg1, DL.ap_dRg2, DL.ap_dLrg, DL.ap_dTrg, DL.ap_iAny, DL.ap_iRng1, DL.ap_iRng2, DL.ap_iRng3, DL.ap_rng1P, DL.ap_rng2P, DL.ap_rng3P, DL.ap_iZip, DL.ap_dLzip, DL.ap_dZ2, DL.ap_iEnm, DL.ap_a1, DL.ap_a2, DL.ap_sqT, DL.ap_sqR, DL.ap_dNext, DL.ap_dSeq, DL.ap_dBreak, DL.ap_dCont, DL.ap_dDrop, DL.ap_dRet, DL.ap_dRetN, DL.ap_dIfS, DL.ap_dAsg, DL.ap_dPar, DL.ap_a3, DL.ap_dPar3, DL.ap_dAug, DL.ap_dAugS, DL.ap_dFor, DL.ap_gSet, DL.ap_gTup, DL.ap_gNil, DL.ap_gCons, DL.ap_gSub, DL.tr_non, DL.tr_bl, DL.tr_int, DL.tr_str, DL.tr_tup, DL.tr_ref, DL.ad_int, DL.ad_tup, DL.ad_ref, DL.sb_int, DL.mu_int, DL.mu_tup, DL.mu_ref, DL.fd_int, DL.md_int, DL.pw_int, DL.ng_int, DL.i2_int, DL.ci_int, DL.is_bl, DL.is_nn, DL.is_in, DL.is_tn, DL.is_rn, DL.is_sn, DL.ix_tup, DL.ix_ref, DL.ixl_ref, DL.sl_tup, DL.sl_lw, DL.sl_ref, DL.st_ref, DL.ap_append, DL.ap_extend, DL.ap_popI, DL.ap_pop0, DL.ty_ref, DL.ln_tup, DL.ln_ref, DL.ab_int, DL.in_int, DL.in_bl, DL.mn_int, DL.mx_int, DL.sm_of, DL.al_ref, DL.an_ref, DL.li_of, DL.tu_of, DL.so_ref, DL.getV_0, DL.getV_s, DL.set_0, DL.set_s, DL.startD_nil, DL.startD_cons, DL.rep_0, DL.rep_s, DL.wipe_nil, DL.wipe_cons, DL.isB_bl, DL.isN_int, DL.someD_some, DL.at0, DL.at1, DL.at2, DL.at3, DL.at4, DL.at5, DL.up1_same, DL.up_up]
    exact h _
theorem law_true (ns : List Int) (_ : ns.length ≤ 63) (_ : ∀ z ∈ ns, Builtin.Int.intBits z ≤ 1048576) (S : Sto) : sp_law [.lw (ns.map D.int)] S (fun d _ => d = .bl true) fun _ _ => False := ⟨ns, rfl, fun _ => rfl⟩
end K43

set_option Elab.async false
set_option linter.all false
set_option maxRecDepth 100000
set_option maxHeartbeats 4000000
namespace K43
open PySem PySem.Spec PyProof.Rows L2 RZ DL
def top (i : Nat) : Stmt := PySem.Challenge.pw_coinready_k43_payments_without_idle_coin.main.body.getD i (.Pass ⟨0, 0, 0, 0⟩)
abbrev t_is_integer : Stmt := top 1
abbrev t_are_all : Stmt := top 2
abbrev t_are_integers : Stmt := top 3
abbrev t_kinds : Stmt := top 5
abbrev t_is_row : Stmt := top 6
abbrev t_worth : Stmt := top 7
abbrev t_is_payment : Stmt := top 10
abbrev t_idle_kinds : Stmt := top 11
abbrev t_is_tight : Stmt := top 12
abbrev t_tightened : Stmt := top 13
abbrev t__law_is_int : Stmt := top 15
abbrev t__law_is_row : Stmt := top 16
abbrev t__law_worth : Stmt := top 17
abbrev t__law_bag : Stmt := top 18
abbrev t__law_take : Stmt := top 19
abbrev t__law_some : Stmt := top 20
abbrev t__law_mixed : Stmt := top 21
abbrev t__law_coinage : Stmt := top 22
abbrev t__law_row : Stmt := top 23
abbrev t__law_alike : Stmt := top 24
abbrev t__law_below : Stmt := top 25
abbrev t__law_is_payment : Stmt := top 26
abbrev t__law_idle : Stmt := top 27
abbrev t__law_tightened : Stmt := top 28
abbrev t_law : Stmt := top 29
structure Txt (K : PySem.W.Frag) (mg : Str → Option Value) : Prop where
  b_abs : mg "abs" = none
  b_all : mg "all" = none
  b_bool : mg "bool" = none
  b_enumerate : mg "enumerate" = none
  b_int : mg "int" = none
  b_isinstance : mg "isinstance" = none
  b_len : mg "len" = none
  b_list : mg "list" = none
  b_min : mg "min" = none
  b_range : mg "range" = none
  b_repr : mg "repr" = none
  b_sorted : mg "sorted" = none
  b_str : mg "str" = none
  b_sum : mg "sum" = none
  b_tuple : mg "tuple" = none
  b_zip : mg "zip" = none
  f_is_integer : ∃ (f : Addr) (fd : FuncData), mg "is_integer" = some (.ref f) ∧ Fun K "is_integer" "is_integer" t_is_integer f fd
  f_are_all : ∃ (f : Addr) (fd : FuncData), mg "are_all" = some (.ref f) ∧ Fun K "are_all" "are_all" t_are_all f fd
  f_are_integers : ∃ (f : Addr) (fd : FuncData), mg "are_integers" = some (.ref f) ∧ Fun K "are_integers" "are_integers" t_are_integers f fd
  f_kinds : ∃ (f : Addr) (fd : FuncData), mg "kinds" = some (.ref f) ∧ Fun K "kinds" "kinds" t_kinds f fd
  f_is_row : ∃ (f : Addr) (fd : FuncData), mg "is_row" = some (.ref f) ∧ Fun K "is_row" "is_row" t_is_row f fd
  f_worth : ∃ (f : Addr) (fd : FuncData), mg "worth" = some (.ref f) ∧ Fun K "worth" "worth" t_worth f fd
  f_is_payment : ∃ (f : Addr) (fd : FuncData), mg "is_payment" = some (.ref f) ∧ Fun K "is_payment" "is_payment" t_is_payment f fd
  f_idle_kinds : ∃ (f : Addr) (fd : FuncData), mg "idle_kinds" = some (.ref f) ∧ Fun K "idle_kinds" "idle_kinds" t_idle_kinds f fd
  f_is_tight : ∃ (f : Addr) (fd : FuncData), mg "is_tight" = some (.ref f) ∧ Fun K "is_tight" "is_tight" t_is_tight f fd
  f_tightened : ∃ (f : Addr) (fd : FuncData), mg "tightened" = some (.ref f) ∧ Fun K "tightened" "tightened" t_tightened f fd
  f__law_is_int : ∃ (f : Addr) (fd : FuncData), mg "_law_is_int" = some (.ref f) ∧ Fun K "_law_is_int" "_law_is_int" t__law_is_int f fd
  f__law_is_row : ∃ (f : Addr) (fd : FuncData), mg "_law_is_row" = some (.ref f) ∧ Fun K "_law_is_row" "_law_is_row" t__law_is_row f fd
  f__law_worth : ∃ (f : Addr) (fd : FuncData), mg "_law_worth" = some (.ref f) ∧ Fun K "_law_worth" "_law_worth" t__law_worth f fd
  f__law_bag : ∃ (f : Addr) (fd : FuncData), mg "_law_bag" = some (.ref f) ∧ Fun K "_law_bag" "_law_bag" t__law_bag f fd
  f__law_take : ∃ (f : Addr) (fd : FuncData), mg "_law_take" = some (.ref f) ∧ Fun K "_law_take" "_law_take" t__law_take f fd
  f__law_some : ∃ (f : Addr) (fd : FuncData), mg "_law_some" = some (.ref f) ∧ Fun K "_law_some" "_law_some" t__law_some f fd
  f__law_mixed : ∃ (f : Addr) (fd : FuncData), mg "_law_mixed" = some (.ref f) ∧ Fun K "_law_mixed" "_law_mixed" t__law_mixed f fd
  f__law_coinage : ∃ (f : Addr) (fd : FuncData), mg "_law_coinage" = some (.ref f) ∧ Fun K "_law_coinage" "_law_coinage" t__law_coinage f fd
  f__law_row : ∃ (f : Addr) (fd : FuncData), mg "_law_row" = some (.ref f) ∧ Fun K "_law_row" "_law_row" t__law_row f fd
  f__law_alike : ∃ (f : Addr) (fd : FuncData), mg "_law_alike" = some (.ref f) ∧ Fun K "_law_alike" "_law_alike" t__law_alike f fd
  f__law_below : ∃ (f : Addr) (fd : FuncData), mg "_law_below" = some (.ref f) ∧ Fun K "_law_below" "_law_below" t__law_below f fd
  f__law_is_payment : ∃ (f : Addr) (fd : FuncData), mg "_law_is_payment" = some (.ref f) ∧ Fun K "_law_is_payment" "_law_is_payment" t__law_is_payment f fd
  f__law_idle : ∃ (f : Addr) (fd : FuncData), mg "_law_idle" = some (.ref f) ∧ Fun K "_law_idle" "_law_idle" t__law_idle f fd
  f__law_tightened : ∃ (f : Addr) (fd : FuncData), mg "_law_tightened" = some (.ref f) ∧ Fun K "_law_tightened" "_law_tightened" t__law_tightened f fd
  f_law : ∃ (f : Addr) (fd : FuncData), mg "law" = some (.ref f) ∧ Fun K "law" "law" t_law f fd
  k_MOST_COINS : ∃ u v, mg "MOST_COINS" = some u ∧ RelV v u ∧ ∀ H, Rp K mg H (.int 20) v
section
variable {P : Program} {w : World} {K : PySem.W.Frag} {mg : Str → Option Value} {base : Heap}
theorem g_is_integer {X : Cx} {Z : Zb} {pos : Pos} (T : Txt X.K X.mg) (hg : Gl X "is_integer") : SE X Z (.Name "is_integer" pos) (dC (.fn "is_integer")) := by
  obtain ⟨f, fd, hm, _⟩ := T.f_is_integer
  exact s_glob hg hm (v := .ref f) rfl (fun _ => .fn hm) rfl
theorem g_MOST_COINS {X : Cx} {Z : Zb} {pos : Pos} (T : Txt X.K X.mg) (hg : Gl X "MOST_COINS") : SE X Z (.Name "MOST_COINS" pos) (dC (.int 20)) := by
  obtain ⟨u, v, hm, r, h⟩ := T.k_MOST_COINS
  exact s_glob hg hm r h rfl
theorem s_is_integer : FnScope ["thing"] ["thing"] (defScope t_is_integer) := ⟨rfl, rfl, rfl, by decide +kernel, rfl, by decide +kernel, by decide +kernel⟩
theorem c_is_integer (T : Txt K mg) : Callee P w K mg base 1 "is_integer" sp_is_integer := by
  have S := s_is_integer
  obtain ⟨f, fd, hm, F⟩ := T.f_is_integer
  exact callee_of (t := d_is_integer) F hm S (F.binds fun _ _ _ _ _ _ us hl => match us, hl with | [_], _ => rfl) len_is_integer (fun cdv A outer s H E Z EP hr tk =>
  (ss_one (ss_ret (s_and (s_callB cr_isiA isi_ok (by rfl) T.b_isinstance (by decide +kernel) (s_cons (s_var (i := 0) rfl (.inl rfl) rfl rfl) (s_cons (s_ty (by rfl) T.b_int rfl (by decide) rfl) s_nil rfl) rfl) (by decide) rfl rfl rfl) (s_one (s_not (s_callB cr_isiA isi_ok (by rfl) T.b_isinstance (by decide +kernel) (s_cons (s_var (i := 0) rfl (.inl rfl) rfl rfl) (s_cons (s_ty (by rfl) T.b_bool rfl (by decide) rfl) s_nil rfl) rfl) (by decide) rfl rfl rfl))))))) pure_is_integer
/-- the defs that are handed as values -/
theorem c_tab (T : Txt K mg) : ∀ y sp, tab y = some sp → Callee P w K mg base 1 y sp := by
  intro y sp h
  unfold tab at h
  split at h
  · rename_i e
    subst e; cases h; exact (c_is_integer T).mono (by decide)
  cases h
theorem s_are_all : FnScope ["thing", "fits", "member"] ["thing", "fits"] (defScope t_are_all) := ⟨rfl, rfl, rfl, by decide +kernel, rfl, by decide +kernel, by decide +kernel⟩
theorem c_are_all (T : Txt K mg) : Callee P w K mg base 2 "are_all" sp_are_all := by
  have S := s_are_all
  obtain ⟨f, fd, hm, F⟩ := T.f_are_all
  exact callee_of (t := d_are_all) F hm S (F.binds fun _ _ _ _ _ _ us hl => match us, hl with | [_, _], _ => rfl) len_are_all (fun cdv A outer s H E Z EP hr tk =>
  (ss_one (ss_ret (s_and (s_callB cr_isiA isi_ok (by rfl) T.b_isinstance (by decide +kernel) (s_cons (s_var (i := 0) rfl (.inl rfl) rfl rfl) (s_cons (s_ty (by rfl) T.b_tuple rfl (by decide) rfl) s_nil rfl) rfl) (by decide) rfl rfl rfl) (s_one (s_callB (cr_all rfl) all_ok (by rfl) T.b_all (by decide +kernel) (s_cons (s_lc (own := [("member", 2)]) rfl S.nd (si_any (s_var (i := 0) rfl (.inl rfl) rfl rfl)) (blkOk_by (by first | rfl | kernel_rfl)) (fun _ _ _ _ _ => (sg_name (i := 2) S.nd rfl (.inl rfl) (.inr rfl) (by decide))) (fun _ _ _ _ _ => sts_nil) (fun _ _ _ _ _ => (s_fnV (T := tab) (i := 1) (c_tab T) (hr.mono (by decide)) takesNo rfl (.inr (.inl rfl)) (s_cons (s_var (i := 2) rfl (.inl rfl) rfl rfl) s_nil rfl) rfl rfl rfl rfl)) (fun _ => rfl)) s_nil rfl) (by decide) rfl rfl rfl)))))) pure_are_all
theorem s_are_integers : FnScope ["thing"] ["thing"] (defScope t_are_integers) := ⟨rfl, rfl, rfl, by decide +kernel, rfl, by decide +kernel, by decide +kernel⟩
theorem c_are_integers (T : Txt K mg) : Callee P w K mg base 3 "are_integers" sp_are_integers := by
  have S := s_are_integers
  obtain ⟨f, fd, hm, F⟩ := T.f_are_integers
  exact callee_of (t := d_are_integers) F hm S (F.binds fun _ _ _ _ _ _ us hl => match us, hl with | [_], _ => rfl) len_are_integers (fun cdv A outer s H E Z EP hr tk =>
  (ss_one (ss_ret (s_fn (c_are_all T) (hr.mono (by decide)) tk (by rfl) (s_cons (s_var (i := 0) rfl (.inl rfl) rfl rfl) (s_cons (g_is_integer T (by rfl)) s_nil rfl) rfl) rfl rfl rfl)))) pure_are_integers
theorem s_kinds : FnScope ["coinage"] ["coinage"] (defScope t_kinds) := ⟨rfl, rfl, rfl, by decide +kernel, rfl, by decide +kernel, by decide +kernel⟩
theorem c_kinds (T : Txt K mg) : Callee P w K mg base 1 "kinds" sp_kinds := by
  have S := s_kinds
  obtain ⟨f, fd, hm, F⟩ := T.f_kinds
  exact callee_of (t := d_kinds) F hm S (F.binds fun _ _ _ _ _ _ us hl => match us, hl with | [_], _ => rfl) len_kinds (fun cdv A outer s H E Z EP hr tk =>
  (ss_one (ss_ret (s_callB cr_len len_ok (by rfl) T.b_len (by decide +kernel) (s_cons (s_ix ix_seq ix_ok (s_var (i := 0) rfl (.inl rfl) rfl rfl) s_int (fun _ _ => rfl)) s_nil rfl) (by decide) rfl rfl rfl)))) pure_kinds
theorem s_is_row : FnScope ["coinage", "thing", "many"] ["coinage", "thing"] (defScope t_is_row) := ⟨rfl, rfl, rfl, by decide +kernel, rfl, by decide +kernel, by decide +kernel⟩
theorem c_is_row (T : Txt K mg) : Callee P w K mg base 4 "is_row" sp_is_row := by
  have S := s_is_row
  obtain ⟨f, fd, hm, F⟩ := T.f_is_row
  exact callee_of (t := d_is_row) F hm S (F.binds fun _ _ _ _ _ _ us hl => match us, hl with | [_, _], _ => rfl) len_is_row (fun cdv A outer s H E Z EP hr tk =>
  (ss_one (ss_ret (s_and (s_fn (c_are_integers T) (hr.mono (by decide)) tk (by rfl) (s_cons (s_var (i := 1) rfl (.inl rfl) rfl rfl) s_nil rfl) rfl rfl rfl) (s_and (s_cmp (op_eqA hr.u64) eq_ok (s_callB cr_len len_ok (by rfl) T.b_len (by decide +kernel) (s_cons (s_var (i := 1) rfl (.inl rfl) rfl rfl) s_nil rfl) (by decide) rfl rfl rfl) (s_fn (c_kinds T) (hr.mono (by decide)) tk (by rfl) (s_cons (s_var (i := 0) rfl (.inl rfl) rfl rfl) s_nil rfl) rfl rfl rfl) rfl) (s_one (s_callB (cr_all rfl) all_ok (by rfl) T.b_all (by decide +kernel) (s_cons (s_lc (own := [("many", 2)]) rfl S.nd (si_any (s_var (i := 1) rfl (.inl rfl) rfl rfl)) (blkOk_by (by first | rfl | kernel_rfl)) (fun _ _ _ _ _ => (sg_name (i := 2) S.nd rfl (.inl rfl) (.inr rfl) (by decide))) (fun _ _ _ _ _ => sts_nil) (fun _ _ _ _ _ => (s_cmp op_ge (cmpI_ok (fun i j => decide (j ≤ i))) (s_var (i := 2) rfl (.inl rfl) rfl rfl) s_int rfl)) (fun _ => rfl)) s_nil rfl) (by decide) rfl rfl rfl))))))) pure_is_row
theorem s_worth : FnScope ["coinage", "row", "value", "many"] ["coinage", "row"] (defScope t_worth) := ⟨rfl, rfl, rfl, by decide +kernel, rfl, by decide +kernel, by decide +kernel⟩
theorem c_worth (T : Txt K mg) : Callee P w K mg base 1 "worth" sp_worth := by
  have S := s_worth
  obtain ⟨f, fd, hm, F⟩ := T.f_worth
  exact callee_of (t := d_worth) F hm S (F.binds fun _ _ _ _ _ _ us hl => match us, hl with | [_, _], _ => rfl) len_worth (fun cdv A outer s H E Z EP hr tk =>
  (ss_one (ss_ret (s_callB (cr_sumK rfl) sum_ok (by rfl) T.b_sum (by decide +kernel) (s_cons (s_lc (own := [("value", 2), ("many", 3)]) rfl S.nd (si_zip2 (by rfl) T.b_zip (s_cons (s_ix ix_seq ix_ok (s_var (i := 0) rfl (.inl rfl) rfl rfl) s_int (fun _ _ => rfl)) (s_cons (s_var (i := 1) rfl (.inl rfl) rfl rfl) s_nil rfl) rfl) rfl rfl) (blkOk_by (by first | rfl | kernel_rfl)) (fun _ _ _ _ _ => (sg_tup rfl (sgs_cons (sg_name (i := 2) S.nd rfl (.inl rfl) (.inr rfl) (by decide)) (sgs_cons (sg_name (i := 3) S.nd rfl (.inl rfl) (.inr rfl) (by decide)) sgs_nil rfl) rfl) rfl rfl)) (fun _ _ _ _ _ => sts_nil) (fun _ _ _ _ _ => (s_op op_mulAll mul_ok (s_var (i := 2) rfl (.inl rfl) rfl rfl) (s_var (i := 3) rfl (.inl rfl) rfl rfl))) (fun _ => rfl)) s_nil rfl) (by decide) rfl rfl rfl)))) pure_worth
theorem s_is_payment : FnScope ["coinage", "price", "thing"] ["coinage", "price", "thing"] (defScope t_is_payment) := ⟨rfl, rfl, rfl, by decide +kernel, rfl, by decide +kernel, by decide +kernel⟩
theorem c_is_payment (T : Txt K mg) : Callee P w K mg base 5 "is_payment" sp_is_payment := by
  have S := s_is_payment
  obtain ⟨f, fd, hm, F⟩ := T.f_is_payment
  exact callee_of (t := d_is_payment) F hm S (F.binds fun _ _ _ _ _ _ us hl => match us, hl with | [_, _, _], _ => rfl) len_is_payment (fun cdv A outer s H E Z EP hr tk =>
  (ss_one (ss_ret (s_and (s_fn (c_is_row T) (hr.mono (by decide)) tk (by rfl) (s_cons (s_var (i := 0) rfl (.inl rfl) rfl rfl) (s_cons (s_var (i := 2) rfl (.inl rfl) rfl rfl) s_nil rfl) rfl) rfl rfl rfl) (s_and (s_cmp op_le (cmpI_ok (fun i j => decide (i ≤ j))) (s_callB (cr_sumK rfl) sum_ok (by rfl) T.b_sum (by decide +kernel) (s_cons (s_var (i := 2) rfl (.inl rfl) rfl rfl) s_nil rfl) (by decide) rfl rfl rfl) (g_MOST_COINS T (by rfl)) rfl) (s_one (s_cmp op_ge (cmpI_ok (fun i j => decide (j ≤ i))) (s_fn (c_worth T) (hr.mono (by decide)) tk (by rfl) (s_cons (s_var (i := 0) rfl (.inl rfl) rfl rfl) (s_cons (s_var (i := 2) rfl (.inl rfl) rfl rfl) s_nil rfl) rfl) rfl rfl rfl) (s_var (i := 1) rfl (.inl rfl) rfl rfl) rfl))))))) pure_is_payment
theorem s_idle_kinds : FnScope ["coinage", "price", "payment", "due", "kind", "many"] ["coinage", "price", "payment"] (defScope t_idle_kinds) := ⟨rfl, rfl, rfl, by decide +kernel, rfl, by decide +kernel, by decide +kernel⟩
theorem c_idle_kinds (T : Txt K mg) : Callee P w K mg base 2 "idle_kinds" sp_idle_kinds := by
  have S := s_idle_kinds
  obtain ⟨f, fd, hm, F⟩ := T.f_idle_kinds
  exact callee_of (t := d_idle_kinds) F hm S (F.binds fun _ _ _ _ _ _ us hl => match us, hl with | [_, _, _], _ => rfl) len_idle_kinds (fun cdv A outer s H E Z EP hr tk =>
  (ss_cons (ss_asg (s_op op_sub sub_ok (s_fn (c_worth T) (hr.mono (by decide)) tk (by rfl) (s_cons (s_var (i := 0) rfl (.inr (.inl rfl)) rfl rfl) (s_cons (s_var (i := 2) rfl (.inl rfl) rfl rfl) s_nil rfl) rfl) rfl rfl rfl) (s_var (i := 1) rfl (.inl rfl) rfl rfl)) (sg_name (vs := List.range 99) (i := 3) S.nd rfl (.inr rfl) (.inl rfl) (by decide)) rfl rfl rfl)
  (ss_one (ss_ret (s_callTy call_tuple_of tuple1_ok (by rfl) T.b_tuple (by decide +kernel) (s_cons (s_lc (own := [("kind", 4), ("many", 5)]) rfl S.nd (si_enum (by rfl) T.b_enumerate (s_cons (s_var (i := 2) rfl (.inl rfl) rfl rfl) s_nil rfl) rfl) (blkOk_by (by first | rfl | kernel_rfl)) (fun _ _ _ _ _ => (sg_tup rfl (sgs_cons (sg_name (i := 4) S.nd rfl (.inl rfl) (.inr rfl) (by decide)) (sgs_cons (sg_name (i := 5) S.nd rfl (.inl rfl) (.inr rfl) (by decide)) sgs_nil rfl) rfl) rfl rfl)) (fun _ _ _ _ _ => (sts_one (s_wt (s_andT (s_cmpT op_gt (cmpI_ok (fun i j => decide (j < i))) (s_var (i := 5) rfl (.inl rfl) rfl rfl) s_int rfl) (s_and1 (s_cmpT op_le (cmpI_ok (fun i j => decide (i ≤ j))) (s_ix ix_seq ix_ok (s_ix ix_seq ix_ok (s_var (i := 0) rfl (.inr (.inl rfl)) rfl rfl) s_int (fun _ _ => rfl)) (s_var (i := 4) rfl (.inl rfl) rfl rfl) (fun _ _ => rfl)) (s_var (i := 3) rfl (.inr (.inl rfl)) rfl rfl) rfl)))))) (fun _ _ _ _ _ => (s_var (i := 4) rfl (.inl rfl) rfl rfl)) (fun _ => rfl)) s_nil rfl) (by decide) rfl rfl rfl))))) pure_idle_kinds
theorem s_is_tight : FnScope ["coinage", "price", "thing"] ["coinage", "price", "thing"] (defScope t_is_tight) := ⟨rfl, rfl, rfl, by decide +kernel, rfl, by decide +kernel, by decide +kernel⟩
theorem c_is_tight (T : Txt K mg) : Callee P w K mg base 6 "is_tight" sp_is_tight := by
  have S := s_is_tight
  obtain ⟨f, fd, hm, F⟩ := T.f_is_tight
  exact callee_of (t := d_is_tight) F hm S (F.binds fun _ _ _ _ _ _ us hl => match us, hl with | [_, _, _], _ => rfl) len_is_tight (fun cdv A outer s H E Z EP hr tk =>
  (ss_one (ss_ret (s_and (s_fn (c_is_payment T) (hr.mono (by decide)) tk (by rfl) (s_cons (s_var (i := 0) rfl (.inl rfl) rfl rfl) (s_cons (s_var (i := 1) rfl (.inl rfl) rfl rfl) (s_cons (s_var (i := 2) rfl (.inl rfl) rfl rfl) s_nil rfl) rfl) rfl) rfl rfl rfl) (s_one (s_cmp (op_eqA hr.u64) eq_ok (s_fn (c_idle_kinds T) (hr.mono (by decide)) tk (by rfl) (s_cons (s_var (i := 0) rfl (.inl rfl) rfl rfl) (s_cons (s_var (i := 1) rfl (.inl rfl) rfl rfl) (s_cons (s_var (i := 2) rfl (.inl rfl) rfl rfl) s_nil rfl) rfl) rfl) rfl rfl rfl) (s_tup s_nil) rfl)))))) pure_is_tight
theorem s_tightened : FnScope ["coinage", "price", "payment", "due", "found", "kind", "back"] ["coinage", "price", "payment"] (defScope t_tightened) := ⟨rfl, rfl, rfl, by decide +kernel, rfl, by decide +kernel, by decide +kernel⟩
theorem c_tightened (T : Txt K mg) : Callee P w K mg base 2 "tightened" sp_tightened := by
  have S := s_tightened
  obtain ⟨f, fd, hm, F⟩ := T.f_tightened
  exact callee_of (t := d_tightened) F hm S (F.binds fun _ _ _ _ _ _ us hl => match us, hl with | [_, _, _], _ => rfl) len_tightened (fun cdv A outer s H E Z EP hr tk =>
  (ss_cons (ss_par (i := 3) (j := 4) rfl S.nd rfl rfl (by decide) rfl rfl (s_cons (s_op op_sub sub_ok (s_fn (c_worth T) (hr.mono (by decide)) tk (by rfl) (s_cons (s_var (i := 0) rfl (.inl rfl) rfl rfl) (s_cons (s_var (i := 2) rfl (.inl rfl) rfl rfl) s_nil rfl) rfl) rfl rfl rfl) (s_var (i := 1) rfl (.inl rfl) rfl rfl)) (s_cons (s_callTy call_list_of list1_ok (by rfl) T.b_list (by decide +kernel) (s_cons (s_var (i := 2) rfl (.inl rfl) rfl rfl) s_nil rfl) (by decide) rfl rfl rfl) s_nil rfl) rfl) rfl rfl)
  (ss_cons (ss_for (L2.passes_of rfl) rfl (si_rng3 (by rfl) T.b_range (s_cons (s_op op_sub sub_ok (s_callB cr_len len_ok (by rfl) T.b_len (by decide +kernel) (s_cons (s_var (i := 4) rfl (.inl rfl) rfl rfl) s_nil rfl) (by decide) rfl rfl rfl) s_int) (s_cons (s_un un_neg neg_ok s_int) (s_cons (s_un un_neg neg_ok s_int) s_nil rfl) rfl) rfl) rfl rfl) (sg_name (vs := List.range 99) (i := 5) S.nd rfl (.inl rfl) (.inr rfl) (by decide)) (ss_cons (ss_asg (s_callB (call_min2 rfl) min2_ok (by rfl) T.b_min (by decide +kernel) (s_cons (s_ix ix_seq ix_ok (s_var (i := 4) rfl (.inl rfl) rfl rfl) (s_var (i := 5) rfl (.inl rfl) rfl rfl) (fun _ _ => rfl)) (s_cons (s_op op_fdivW fdiv_ok (s_var (i := 3) rfl (.inl rfl) rfl rfl) (s_ix ix_seq ix_ok (s_ix ix_seq ix_ok (s_var (i := 0) rfl (.inl rfl) rfl rfl) s_int (fun _ _ => rfl)) (s_var (i := 5) rfl (.inl rfl) rfl rfl) (fun _ _ => rfl))) s_nil rfl) rfl) (by decide) rfl rfl rfl) (sg_name (vs := List.range 99) (i := 6) S.nd rfl (.inl rfl) (.inr rfl) (by decide)) rfl rfl rfl)
  (ss_cons (ss_augS (s_var (i := 4) rfl (.inl rfl) rfl rfl) (s_var (i := 5) rfl (.inl rfl) rfl rfl) pget_list (s_var (i := 6) rfl (.inl rfl) rfl rfl) ip_sub set_list ixL_ok (ipI_ok fun i j => i - j) setL_ok (fun _ _ _ => rfl))
  (ss_one (ss_aug (i := 3) S.nd rfl (.inl rfl) (s_op op_mulAll mul_ok (s_var (i := 6) rfl (.inl rfl) rfl rfl) (s_ix ix_seq ix_ok (s_ix ix_seq ix_ok (s_var (i := 0) rfl (.inl rfl) rfl rfl) s_int (fun _ _ => rfl)) (s_var (i := 5) rfl (.inl rfl) rfl rfl) (fun _ _ => rfl))) ip_sub (ipI_ok fun i j => i - j) (.inr rfl))))) (fun _ => rfl))
  (ss_one (ss_ret (s_callTy call_tuple_of tuple1_ok (by rfl) T.b_tuple (by decide +kernel) (s_cons (s_var (i := 4) rfl (.inl rfl) rfl rfl) s_nil rfl) (by decide) rfl rfl rfl)))))) pure_tightened
theorem s__law_is_int : FnScope ["thing"] ["thing"] (defScope t__law_is_int) := ⟨rfl, rfl, rfl, by decide +kernel, rfl, by decide +kernel, by decide +kernel⟩
theorem c__law_is_int (T : Txt K mg) : Callee P w K mg base 1 "_law_is_int" sp__law_is_int := by
  have S := s__law_is_int
  obtain ⟨f, fd, hm, F⟩ := T.f__law_is_int
  exact callee_of (t := d__law_is_int) F hm S (F.binds fun _ _ _ _ _ _ us hl => match us, hl with | [_], _ => rfl) len__law_is_int (fun cdv A outer s H E Z EP hr tk =>
  (ss_one (ss_ret (s_and (s_callB cr_isiA isi_ok (by rfl) T.b_isinstance (by decide +kernel) (s_cons (s_var (i := 0) rfl (.inl rfl) rfl rfl) (s_cons (s_ty (by rfl) T.b_int rfl (by decide) rfl) s_nil rfl) rfl) (by decide) rfl rfl rfl) (s_one (s_not (s_callB cr_isiA isi_ok (by rfl) T.b_isinstance (by decide +kernel) (s_cons (s_var (i := 0) rfl (.inl rfl) rfl rfl) (s_cons (s_ty (by rfl) T.b_bool rfl (by decide) rfl) s_nil rfl) rfl) (by decide) rfl rfl rfl))))))) pure__law_is_int
theorem s__law_is_row : FnScope ["coinage", "thing", "many"] ["coinage", "thing"] (defScope t__law_is_row) := ⟨rfl, rfl, rfl, by decide +kernel, rfl, by decide +kernel, by decide +kernel⟩
theorem c__law_is_row (T : Txt K mg) : Callee P w K mg base 2 "_law_is_row" sp__law_is_row := by
  have S := s__law_is_row
  obtain ⟨f, fd, hm, F⟩ := T.f__law_is_row
  exact callee_of (t := d__law_is_row) F hm S (F.binds fun _ _ _ _ _ _ us hl => match us, hl with | [_, _], _ => rfl) len__law_is_row (fun cdv A outer s H E Z EP hr tk =>
  (ss_cons (ss_if (s_wt (s_orT (s_notT (s_truth (s_callB cr_isiA isi_ok (by rfl) T.b_isinstance (by decide +kernel) (s_cons (s_var (i := 1) rfl (.inl rfl) rfl rfl) (s_cons (s_ty (by rfl) T.b_tuple rfl (by decide) rfl) s_nil rfl) rfl) (by decide) rfl rfl rfl) (fun _ => rfl))) (s_or1 (s_cmpT (op_neA hr.u64) ne_ok (s_callB cr_len len_ok (by rfl) T.b_len (by decide +kernel) (s_cons (s_var (i := 1) rfl (.inl rfl) rfl rfl) s_nil rfl) (by decide) rfl rfl rfl) (s_callB cr_len len_ok (by rfl) T.b_len (by decide +kernel) (s_cons (s_ix ix_seq ix_ok (s_var (i := 0) rfl (.inl rfl) rfl rfl) s_int (fun _ _ => rfl)) s_nil rfl) (by decide) rfl rfl rfl) rfl)))) (ss_one (ss_ret s_bl)) ss_nil)
  (ss_one (ss_ret (s_cmp (op_eqA hr.u64) eq_ok (s_lc (own := [("many", 2)]) rfl S.nd (si_any (s_var (i := 1) rfl (.inl rfl) rfl rfl)) (blkOk_by (by first | rfl | kernel_rfl)) (fun _ _ _ _ _ => (sg_name (i := 2) S.nd rfl (.inl rfl) (.inr rfl) (by decide))) (fun _ _ _ _ _ => (sts_one (s_wt (s_orT (s_notT (s_truth (s_fn (c__law_is_int T) (hr.mono (by decide)) takesNo (by rfl) (s_cons (s_var (i := 2) rfl (.inl rfl) rfl rfl) s_nil rfl) rfl rfl rfl) (fun _ => rfl))) (s_or1 (s_cmpT op_lt (cmpI_ok (fun i j => decide (i < j))) (s_var (i := 2) rfl (.inl rfl) rfl rfl) s_int rfl)))))) (fun _ _ _ _ _ => s_int) (fun _ => rfl)) (s_lst s_nil) rfl))))) pure__law_is_row
theorem s__law_worth : FnScope ["coinage", "row", "value", "many"] ["coinage", "row"] (defScope t__law_worth) := ⟨rfl, rfl, rfl, by decide +kernel, rfl, by decide +kernel, by decide +kernel⟩
theorem c__law_worth (T : Txt K mg) : Callee P w K mg base 1 "_law_worth" sp__law_worth := by
  have S := s__law_worth
  obtain ⟨f, fd, hm, F⟩ := T.f__law_worth
  exact callee_of (t := d__law_worth) F hm S (F.binds fun _ _ _ _ _ _ us hl => match us, hl with | [_, _], _ => rfl) len__law_worth (fun cdv A outer s H E Z EP hr tk =>
  (ss_one (ss_ret (s_callB (cr_sumK rfl) sum_ok (by rfl) T.b_sum (by decide +kernel) (s_cons (s_lc (own := [("value", 2), ("many", 3)]) rfl S.nd (si_zip2 (by rfl) T.b_zip (s_cons (s_ix ix_seq ix_ok (s_var (i := 0) rfl (.inl rfl) rfl rfl) s_int (fun _ _ => rfl)) (s_cons (s_var (i := 1) rfl (.inl rfl) rfl rfl) s_nil rfl) rfl) rfl rfl) (blkOk_by (by first | rfl | kernel_rfl)) (fun _ _ _ _ _ => (sg_tup rfl (sgs_cons (sg_name (i := 2) S.nd rfl (.inl rfl) (.inr rfl) (by decide)) (sgs_cons (sg_name (i := 3) S.nd rfl (.inl rfl) (.inr rfl) (by decide)) sgs_nil rfl) rfl) rfl rfl)) (fun _ _ _ _ _ => sts_nil) (fun _ _ _ _ _ => (s_op op_mulAll mul_ok (s_var (i := 2) rfl (.inl rfl) rfl rfl) (s_var (i := 3) rfl (.inl rfl) rfl rfl))) (fun _ => rfl)) s_nil rfl) (by decide) rfl rfl rfl)))) pure__law_worth
theorem s__law_bag : FnScope ["script", "cell"] ["script"] (defScope t__law_bag) := ⟨rfl, rfl, rfl, by decide +kernel, rfl, by decide +kernel, by decide +kernel⟩
theorem c__law_bag (T : Txt K mg) : Callee P w K mg base 1 "_law_bag" sp__law_bag := by
  have S := s__law_bag
  obtain ⟨f, fd, hm, F⟩ := T.f__law_bag
  exact callee_of (t := d__law_bag) F hm S (F.binds fun _ _ _ _ _ _ us hl => match us, hl with | [_], _ => rfl) len__law_bag (fun cdv A outer s H E Z EP hr tk =>
  (ss_one (ss_ret (s_lst (s_cons s_int (s_cons s_int (s_cons s_int (s_cons (s_lc (own := [("cell", 1)]) rfl S.nd (si_any (s_slice sl_all sl_ok (s_var (i := 0) rfl (.inl rfl) rfl rfl) s_noPart (s_part s_int))) (blkOk_by (by first | rfl | kernel_rfl)) (fun _ _ _ _ _ => (sg_name (i := 1) S.nd rfl (.inl rfl) (.inr rfl) (by decide))) (fun _ _ _ _ _ => sts_nil) (fun _ _ _ _ _ => (s_callB call_abs abs_ok (by rfl) T.b_abs (by decide +kernel) (s_cons (s_var (i := 1) rfl (.inl rfl) rfl rfl) s_nil rfl) (by decide) rfl rfl rfl)) (fun _ => rfl)) s_nil rfl) rfl) rfl) rfl))))) pure__law_bag
theorem s__law_take : FnScope ["bag", "many", "cell", "stirred", "value", "begin", "second"] ["bag", "many"] (defScope t__law_take) := ⟨rfl, rfl, rfl, by decide +kernel, rfl, by decide +kernel, by decide +kernel⟩
theorem c__law_take (T : Txt K mg) : Callee P w K mg base 1 "_law_take" sp__law_take := by
  have S := s__law_take
  obtain ⟨f, fd, hm, F⟩ := T.f__law_take
  exact callee_of (t := d__law_take) F hm S (F.binds fun _ _ _ _ _ _ us hl => match us, hl with | [_, _], _ => rfl) len__law_take (fun cdv A outer s H E Z EP hr tk =>
  (ss_cons (ss_if (s_cmpT (op_eqA hr.u64) eq_ok (s_ix ix_seq ix_ok (s_var (i := 0) rfl (.inl rfl) rfl rfl) s_int (fun _ _ => rfl)) s_int rfl) (ss_cons (ss_asg (s_ix ix_seq ix_ok (s_op op_addAll add_ok (s_slice sl_all sl_ok (s_ix ix_seq ix_ok (s_var (i := 0) rfl (.inl rfl) rfl rfl) s_int (fun _ _ => rfl)) (s_part (s_ix ix_seq ix_ok (s_var (i := 0) rfl (.inl rfl) rfl rfl) s_int (fun _ _ => rfl))) s_noPart) (s_lst (s_cons s_int s_nil rfl))) s_int (fun _ _ => rfl)) (sg_name (vs := List.range 99) (i := 2) S.nd rfl (.inl rfl) (.inr rfl) (by decide)) rfl rfl rfl)
  (ss_cons (ss_augS (s_var (i := 0) rfl (.inl rfl) rfl rfl) s_int pget_list s_int ip_add set_list ixL_ok (ipI_ok fun i j => i + j) setL_ok (fun _ _ _ => rfl))
  (ss_cons (ss_if (s_cmpT op_ge (cmpI_ok (fun i j => decide (j ≤ i))) (s_var (i := 2) rfl (.inl rfl) rfl rfl) (s_op op_pow pow_ok s_int s_int) rfl) (ss_one (ss_asg (s_var (i := 2) rfl (.inl rfl) rfl rfl) (sg_sub (vs := List.range 99) set_list setL_ok (s_var (i := 0) rfl (.inl rfl) rfl rfl) s_int (fun _ => rfl)) rfl rfl rfl)) ss_nil)
  (ss_cons (ss_asg (s_op op_addAll add_ok (s_op op_addAll add_ok (s_op op_mulAll mul_ok (s_ix ix_seq ix_ok (s_var (i := 0) rfl (.inl rfl) rfl rfl) s_int (fun _ _ => rfl)) s_int) (s_op op_mod mod_ok (s_callTy call_int1 int_ok (by rfl) T.b_int (by decide +kernel) (s_cons (s_var (i := 2) rfl (.inl rfl) rfl rfl) s_nil rfl) (by decide) rfl rfl rfl) s_int)) (s_op op_mulAll mul_ok s_int (s_ix ix_seq ix_ok (s_var (i := 0) rfl (.inl rfl) rfl rfl) s_int (fun _ _ => rfl)))) (sg_name (vs := List.range 99) (i := 3) S.nd rfl (.inl rfl) (.inr rfl) (by decide)) rfl rfl rfl)
  (ss_one (ss_asg (s_op op_mod mod_ok (s_callTy call_int1 int_ok (by rfl) T.b_int (by decide +kernel) (s_cons (s_var (i := 3) rfl (.inl rfl) rfl rfl) s_nil rfl) (by decide) rfl rfl rfl) s_int) (sg_sub (vs := List.range 99) set_list setL_ok (s_var (i := 0) rfl (.inl rfl) rfl rfl) s_int (fun _ => rfl)) rfl rfl rfl)))))) ss_nil)
  (ss_cons (ss_if (s_cmpT op_gt (cmpI_ok (fun i j => decide (j < i))) (s_ix ix_seq ix_ok (s_var (i := 0) rfl (.inl rfl) rfl rfl) s_int (fun _ _ => rfl)) s_int rfl) (ss_cons (ss_asg (s_op op_mod mod_ok (s_callTy call_int1 int_ok (by rfl) T.b_int (by decide +kernel) (s_cons (s_ix ix_seq ix_ok (s_var (i := 0) rfl (.inl rfl) rfl rfl) s_int (fun _ _ => rfl)) s_nil rfl) (by decide) rfl rfl rfl) (s_var (i := 1) rfl (.inl rfl) rfl rfl)) (sg_name (vs := List.range 99) (i := 4) S.nd rfl (.inl rfl) (.inr rfl) (by decide)) rfl rfl rfl)
  (ss_cons (ss_asg (s_op op_fdivW fdiv_ok (s_callTy call_int1 int_ok (by rfl) T.b_int (by decide +kernel) (s_cons (s_ix ix_seq ix_ok (s_var (i := 0) rfl (.inl rfl) rfl rfl) s_int (fun _ _ => rfl)) s_nil rfl) (by decide) rfl rfl rfl) (s_var (i := 1) rfl (.inl rfl) rfl rfl)) (sg_sub (vs := List.range 99) set_list setL_ok (s_var (i := 0) rfl (.inl rfl) rfl rfl) s_int (fun _ => rfl)) rfl rfl rfl)
  (ss_one (ss_ret (s_var (i := 4) rfl (.inl rfl) rfl rfl))))) ss_nil)
  (ss_cons (ss_asg (s_op op_mod mod_ok (s_callTy call_int1 int_ok (by rfl) T.b_int (by decide +kernel) (s_cons (s_op op_mulAll mul_ok (s_op op_addAll add_ok (s_ix ix_seq ix_ok (s_var (i := 0) rfl (.inl rfl) rfl rfl) s_int (fun _ _ => rfl)) s_int) s_int) s_nil rfl) (by decide) rfl rfl rfl) s_int) (sg_name (vs := List.range 99) (i := 5) S.nd rfl (.inl rfl) (.inr rfl) (by decide)) rfl rfl rfl)
  (ss_cons (ss_asg (s_op op_mod mod_ok (s_callTy call_int1 int_ok (by rfl) T.b_int (by decide +kernel) (s_cons (s_op op_mulAll mul_ok (s_op op_mod mod_ok (s_callTy call_int1 int_ok (by rfl) T.b_int (by decide +kernel) (s_cons (s_op op_mulAll mul_ok (s_var (i := 5) rfl (.inl rfl) rfl rfl) (s_var (i := 5) rfl (.inl rfl) rfl rfl)) s_nil rfl) (by decide) rfl rfl rfl) s_int) s_int) s_nil rfl) (by decide) rfl rfl rfl) s_int) (sg_name (vs := List.range 99) (i := 6) S.nd rfl (.inl rfl) (.inr rfl) (by decide)) rfl rfl rfl)
  (ss_one (ss_ret (s_op op_mod mod_ok (s_callTy call_int1 int_ok (by rfl) T.b_int (by decide +kernel) (s_cons (s_op op_fdivW fdiv_ok (s_var (i := 6) rfl (.inl rfl) rfl rfl) s_int) s_nil rfl) (by decide) rfl rfl rfl) (s_var (i := 1) rfl (.inl rfl) rfl rfl))))))))) pure__law_take
theorem s__law_some : FnScope ["bag", "things"] ["bag", "things"] (defScope t__law_some) := ⟨rfl, rfl, rfl, by decide +kernel, rfl, by decide +kernel, by decide +kernel⟩
theorem c__law_some (T : Txt K mg) : Callee P w K mg base 2 "_law_some" sp__law_some := by
  have S := s__law_some
  obtain ⟨f, fd, hm, F⟩ := T.f__law_some
  exact callee_of (t := d__law_some) F hm S (F.binds fun _ _ _ _ _ _ us hl => match us, hl with | [_, _], _ => rfl) len__law_some (fun cdv A outer s H E Z EP hr tk =>
  (ss_one (ss_ret (s_ix ix_seq ix_ok (s_var (i := 1) rfl (.inl rfl) rfl rfl) (s_fn (c__law_take T) (hr.mono (by decide)) tk (by rfl) (s_cons (s_var (i := 0) rfl (.inl rfl) rfl rfl) (s_cons (s_callB cr_len len_ok (by rfl) T.b_len (by decide +kernel) (s_cons (s_var (i := 1) rfl (.inl rfl) rfl rfl) s_nil rfl) (by decide) rfl rfl rfl) s_nil rfl) rfl) rfl rfl rfl) (fun _ _ => rfl))))) pure__law_some
theorem s__law_mixed : FnScope ["bag", "things", "left", "found"] ["bag", "things"] (defScope t__law_mixed) := ⟨rfl, rfl, rfl, by decide +kernel, rfl, by decide +kernel, by decide +kernel⟩
theorem c__law_mixed (T : Txt K mg) : Callee P w K mg base 2 "_law_mixed" sp__law_mixed := by
  have S := s__law_mixed
  obtain ⟨f, fd, hm, F⟩ := T.f__law_mixed
  exact callee_of (t := d__law_mixed) F hm S (F.binds fun _ _ _ _ _ _ us hl => match us, hl with | [_, _], _ => rfl) len__law_mixed (fun cdv A outer s H E Z EP hr tk =>
  (ss_cons (ss_par (i := 2) (j := 3) rfl S.nd rfl rfl (by decide) rfl rfl (s_cons (s_callTy call_list_of list1_ok (by rfl) T.b_list (by decide +kernel) (s_cons (s_var (i := 1) rfl (.inl rfl) rfl rfl) s_nil rfl) (by decide) rfl rfl rfl) (s_cons (s_lst s_nil) s_nil rfl) rfl) rfl rfl)
  (ss_cons (ss_while (L2.passes_of rfl) (s_cmpT (op_neA hr.u64) ne_ok (s_var (i := 2) rfl (.inl rfl) rfl rfl) (s_lst s_nil) rfl) (ss_one (ss_expr (s_bm PySem.F.plainAttrs_list PySem.F.slot_list_append PySem.F.type_list_append mt_append append_ok (by decide) (s_var (i := 3) rfl (.inl rfl) rfl rfl) (s_cons (s_bm PySem.F.plainAttrs_list PySem.F.slot_list_pop PySem.F.type_list_pop mt_popAt popAt_ok (by decide) (s_var (i := 2) rfl (.inl rfl) rfl rfl) (s_cons (s_fn (c__law_take T) (hr.mono (by decide)) tk (by rfl) (s_cons (s_var (i := 0) rfl (.inl rfl) rfl rfl) (s_cons (s_callB cr_len len_ok (by rfl) T.b_len (by decide +kernel) (s_cons (s_var (i := 2) rfl (.inl rfl) rfl rfl) s_nil rfl) (by decide) rfl rfl rfl) s_nil rfl) rfl) rfl rfl rfl) s_nil rfl) rfl rfl rfl rfl rfl) s_nil rfl) rfl rfl rfl rfl rfl) rfl)))
  (ss_one (ss_ret (s_var (i := 3) rfl (.inl rfl) rfl rfl)))))) pure__law_mixed
theorem s__law_coinage : FnScope ["bag", "kinds_v", "greatest", "cap", "usual", "values", "value"] ["bag", "kinds_v", "greatest", "cap"] (defScope t__law_coinage) := ⟨rfl, rfl, rfl, by decide +kernel, rfl, by decide +kernel, by decide +kernel⟩
theorem c__law_coinage (T : Txt K mg) : Callee P w K mg base 3 "_law_coinage" sp__law_coinage := by
  have S := s__law_coinage
  obtain ⟨f, fd, hm, F⟩ := T.f__law_coinage
  exact callee_of (t := d__law_coinage) F hm S (F.binds fun _ _ _ _ _ _ us hl => match us, hl with | [_, _, _, _], _ => rfl) len__law_coinage (fun cdv A outer s H E Z EP hr tk =>
  (ss_cons (ss_asg (s_fn (c__law_some T) (hr.mono (by decide)) tk (by rfl) (s_cons (s_var (i := 0) rfl (.inr (.inl rfl)) rfl rfl) (s_cons (s_lst (s_cons (s_lst (s_cons s_int (s_cons s_int (s_cons s_int (s_cons s_int s_nil rfl) rfl) rfl) rfl)) (s_cons (s_lst (s_cons s_int (s_cons s_int (s_cons s_int (s_cons s_int s_nil rfl) rfl) rfl) rfl)) (s_cons (s_lst (s_cons s_int (s_cons s_int (s_cons s_int s_nil rfl) rfl) rfl)) (s_cons (s_lst (s_cons s_int (s_cons s_int (s_cons s_int s_nil rfl) rfl) rfl)) (s_cons (s_lst (s_cons s_int (s_cons s_int (s_cons s_int (s_cons s_int s_nil rfl) rfl) rfl) rfl)) (s_cons (s_lst (s_cons s_int (s_cons s_int (s_cons s_int (s_cons s_int s_nil rfl) rfl) rfl) rfl)) s_nil rfl) rfl) rfl) rfl) rfl) rfl)) s_nil rfl) rfl) rfl rfl rfl) (sg_name (vs := List.range 99) (i := 4) S.nd rfl (.inl rfl) (.inr rfl) (by decide)) rfl rfl rfl)
  (ss_cons (ss_asg (s_callB cr_sortedI sortI_ok (by rfl) T.b_sorted (by decide +kernel) (s_cons (s_slice sl_all sl_ok (s_var (i := 4) rfl (.inl rfl) rfl rfl) s_noPart (s_part (s_var (i := 1) rfl (.inl rfl) rfl rfl))) s_nil rfl) (by decide) rfl rfl rfl) (sg_name (vs := List.range 99) (i := 5) S.nd rfl (.inl rfl) (.inr rfl) (by decide)) rfl rfl rfl)
  (ss_cons (ss_if (s_wt (s_orT (s_cmpT (op_eqA hr.u64) eq_ok (s_fn (c__law_take T) (hr.mono (by decide)) tk (by rfl) (s_cons (s_var (i := 0) rfl (.inr (.inl rfl)) rfl rfl) (s_cons s_int s_nil rfl) rfl) rfl rfl rfl) s_int rfl) (s_or1 (s_cmpT op_lt (cmpI_ok (fun i j => decide (i < j))) (s_callB cr_len len_ok (by rfl) T.b_len (by decide +kernel) (s_cons (s_var (i := 5) rfl (.inl rfl) rfl rfl) s_nil rfl) (by decide) rfl rfl rfl) (s_var (i := 1) rfl (.inl rfl) rfl rfl) rfl)))) (ss_one (ss_asg (s_callB cr_sortedI sortI_ok (by rfl) T.b_sorted (by decide +kernel) (s_cons (s_slice sl_all sl_ok (s_fn (c__law_mixed T) (hr.mono (by decide)) tk (by rfl) (s_cons (s_var (i := 0) rfl (.inr (.inl rfl)) rfl rfl) (s_cons (s_lrng2 (by rfl) T.b_list rfl (by rfl) T.b_range s_int (s_op op_addAll add_ok (s_var (i := 2) rfl (.inl rfl) rfl rfl) s_int) rfl rfl rfl rfl) s_nil rfl) rfl) rfl rfl rfl) s_noPart (s_part (s_var (i := 1) rfl (.inl rfl) rfl rfl))) s_nil rfl) (by decide) rfl rfl rfl) (sg_name (vs := List.range 99) (i := 5) S.nd rfl (.inl rfl) (.inr rfl) (by decide)) rfl rfl rfl)) ss_nil)
  (ss_one (ss_ret (s_tup (s_cons (s_callTy call_tuple_of tuple1_ok (by rfl) T.b_tuple (by decide +kernel) (s_cons (s_var (i := 5) rfl (.inl rfl) rfl rfl) s_nil rfl) (by decide) rfl rfl rfl) (s_cons (s_callTy call_tuple_of tuple1_ok (by rfl) T.b_tuple (by decide +kernel) (s_cons (s_lc (own := [("value", 6)]) rfl S.nd (si_any (s_var (i := 5) rfl (.inl rfl) rfl rfl)) (blkOk_by (by first | rfl | kernel_rfl)) (fun _ _ _ _ _ => (sg_name (i := 6) S.nd rfl (.inl rfl) (.inr rfl) (by decide))) (fun _ _ _ _ _ => sts_nil) (fun _ _ _ _ _ => (s_fn (c__law_take T) (hr.mono (by decide)) takesNo (by rfl) (s_cons (s_var (i := 0) rfl (.inr (.inl rfl)) rfl rfl) (s_cons (s_op op_addAll add_ok (s_var (i := 3) rfl (.inr (.inl rfl)) rfl rfl) s_int) s_nil rfl) rfl) rfl rfl rfl)) (fun _ => rfl)) s_nil rfl) (by decide) rfl rfl rfl) s_nil rfl) rfl)))))))) pure__law_coinage
theorem s__law_row : FnScope ["bag", "coinage", "most", "value"] ["bag", "coinage", "most"] (defScope t__law_row) := ⟨rfl, rfl, rfl, by decide +kernel, rfl, by decide +kernel, by decide +kernel⟩
theorem c__law_row (T : Txt K mg) : Callee P w K mg base 2 "_law_row" sp__law_row := by
  have S := s__law_row
  obtain ⟨f, fd, hm, F⟩ := T.f__law_row
  exact callee_of (t := d__law_row) F hm S (F.binds fun _ _ _ _ _ _ us hl => match us, hl with | [_, _, _], _ => rfl) len__law_row (fun cdv A outer s H E Z EP hr tk =>
  (ss_one (ss_ret (s_callTy call_tuple_of tuple1_ok (by rfl) T.b_tuple (by decide +kernel) (s_cons (s_lc (own := [("value", 3)]) rfl S.nd (si_any (s_ix ix_seq ix_ok (s_var (i := 1) rfl (.inl rfl) rfl rfl) s_int (fun _ _ => rfl))) (blkOk_by (by first | rfl | kernel_rfl)) (fun _ _ _ _ _ => (sg_name (i := 3) S.nd rfl (.inl rfl) (.inr rfl) (by decide))) (fun _ _ _ _ _ => sts_nil) (fun _ _ _ _ _ => (s_fn (c__law_take T) (hr.mono (by decide)) takesNo (by rfl) (s_cons (s_var (i := 0) rfl (.inr (.inl rfl)) rfl rfl) (s_cons (s_op op_addAll add_ok (s_var (i := 2) rfl (.inr (.inl rfl)) rfl rfl) s_int) s_nil rfl) rfl) rfl rfl rfl)) (fun _ => rfl)) s_nil rfl) (by decide) rfl rfl rfl)))) pure__law_row
theorem s__law_alike : FnScope ["found", "due", "pairs", "at", "one", "other"] ["found", "due"] (defScope t__law_alike) := ⟨rfl, rfl, rfl, by decide +kernel, rfl, by decide +kernel, by decide +kernel⟩
theorem c__law_alike (T : Txt K mg) : Callee P w K mg base 1 "_law_alike" sp__law_alike := by
  have S := s__law_alike
  obtain ⟨f, fd, hm, F⟩ := T.f__law_alike
  exact callee_of (t := d__law_alike) F hm S (F.binds fun _ _ _ _ _ _ us hl => match us, hl with | [_, _], _ => rfl) len__law_alike (fun cdv A outer s H E Z EP hr tk =>
  (ss_cons (ss_par (i := 2) (j := 3) rfl S.nd rfl rfl (by decide) rfl rfl (s_cons (s_lst (s_cons (s_tup (s_cons (s_var (i := 0) rfl (.inl rfl) rfl rfl) (s_cons (s_var (i := 1) rfl (.inl rfl) rfl rfl) s_nil rfl) rfl)) s_nil rfl)) (s_cons s_int s_nil rfl) rfl) rfl rfl)
  (ss_cons (ss_while (L2.passes_of rfl) (s_cmpT op_lt (cmpI_ok (fun i j => decide (i < j))) (s_var (i := 3) rfl (.inl rfl) rfl rfl) (s_callB cr_len len_ok (by rfl) T.b_len (by decide +kernel) (s_cons (s_var (i := 2) rfl (.inl rfl) rfl rfl) s_nil rfl) (by decide) rfl rfl rfl) rfl) (ss_cons (ss_asg (s_ix ix_seq ix_ok (s_var (i := 2) rfl (.inl rfl) rfl rfl) (s_var (i := 3) rfl (.inl rfl) rfl rfl) (fun _ _ => rfl)) (sg_tup rfl (sgs_cons (sg_name (vs := List.range 99) (i := 4) S.nd rfl (.inl rfl) (.inr rfl) (by decide)) (sgs_cons (sg_name (vs := List.range 99) (i := 5) S.nd rfl (.inl rfl) (.inr rfl) (by decide)) sgs_nil rfl) rfl) rfl rfl) rfl rfl rfl)
  (ss_cons (ss_aug (i := 3) S.nd rfl (.inl rfl) s_int ip_add (ipI_ok fun i j => i + j) (.inr rfl))
  (ss_cons (ss_if (s_wt (s_orT (s_cmpT (op_neA hr.u64) ne_ok (s_callB cr_isiA isi_ok (by rfl) T.b_isinstance (by decide +kernel) (s_cons (s_var (i := 4) rfl (.inl rfl) rfl rfl) (s_cons (s_ty (by rfl) T.b_bool rfl (by decide) rfl) s_nil rfl) rfl) (by decide) rfl rfl rfl) (s_callB cr_isiA isi_ok (by rfl) T.b_isinstance (by decide +kernel) (s_cons (s_var (i := 5) rfl (.inl rfl) rfl rfl) (s_cons (s_ty (by rfl) T.b_bool rfl (by decide) rfl) s_nil rfl) rfl) (by decide) rfl rfl rfl) rfl) (s_or1 (s_cmpT (op_neA hr.u64) ne_ok (s_callB cr_isiA isi_ok (by rfl) T.b_isinstance (by decide +kernel) (s_cons (s_var (i := 4) rfl (.inl rfl) rfl rfl) (s_cons (s_ty (by rfl) T.b_str rfl (by decide) rfl) s_nil rfl) rfl) (by decide) rfl rfl rfl) (s_callB cr_isiA isi_ok (by rfl) T.b_isinstance (by decide +kernel) (s_cons (s_var (i := 5) rfl (.inl rfl) rfl rfl) (s_cons (s_ty (by rfl) T.b_str rfl (by decide) rfl) s_nil rfl) rfl) (by decide) rfl rfl rfl) rfl)))) (ss_one (ss_ret s_bl)) ss_nil)
  (ss_cons (ss_if (s_cmpT (op_neA hr.u64) ne_ok (s_callB cr_isiA isi_ok (by rfl) T.b_isinstance (by decide +kernel) (s_cons (s_var (i := 4) rfl (.inl rfl) rfl rfl) (s_cons (s_tup (s_cons (s_ty (by rfl) T.b_tuple rfl (by decide) rfl) (s_cons (s_ty (by rfl) T.b_list rfl (by decide) rfl) s_nil rfl) rfl)) s_nil rfl) rfl) (by decide) rfl rfl rfl) (s_callB cr_isiA isi_ok (by rfl) T.b_isinstance (by decide +kernel) (s_cons (s_var (i := 5) rfl (.inl rfl) rfl rfl) (s_cons (s_tup (s_cons (s_ty (by rfl) T.b_tuple rfl (by decide) rfl) (s_cons (s_ty (by rfl) T.b_list rfl (by decide) rfl) s_nil rfl) rfl)) s_nil rfl) rfl) (by decide) rfl rfl rfl) rfl) (ss_one (ss_ret s_bl)) ss_nil)
  (ss_one (ss_if (s_truth (s_callB cr_isiA isi_ok (by rfl) T.b_isinstance (by decide +kernel) (s_cons (s_var (i := 4) rfl (.inl rfl) rfl rfl) (s_cons (s_tup (s_cons (s_ty (by rfl) T.b_tuple rfl (by decide) rfl) (s_cons (s_ty (by rfl) T.b_list rfl (by decide) rfl) s_nil rfl) rfl)) s_nil rfl) rfl) (by decide) rfl rfl rfl) (fun _ => rfl)) (ss_cons (ss_if (s_wt (s_orT (s_cmpT (op_neA hr.u64) ne_ok (s_callB cr_isiA isi_ok (by rfl) T.b_isinstance (by decide +kernel) (s_cons (s_var (i := 4) rfl (.inl rfl) rfl rfl) (s_cons (s_ty (by rfl) T.b_tuple rfl (by decide) rfl) s_nil rfl) rfl) (by decide) rfl rfl rfl) (s_callB cr_isiA isi_ok (by rfl) T.b_isinstance (by decide +kernel) (s_cons (s_var (i := 5) rfl (.inl rfl) rfl rfl) (s_cons (s_ty (by rfl) T.b_tuple rfl (by decide) rfl) s_nil rfl) rfl) (by decide) rfl rfl rfl) rfl) (s_or1 (s_cmpT (op_neA hr.u64) ne_ok (s_callB cr_len len_ok (by rfl) T.b_len (by decide +kernel) (s_cons (s_var (i := 4) rfl (.inl rfl) rfl rfl) s_nil rfl) (by decide) rfl rfl rfl) (s_callB cr_len len_ok (by rfl) T.b_len (by decide +kernel) (s_cons (s_var (i := 5) rfl (.inl rfl) rfl rfl) s_nil rfl) (by decide) rfl rfl rfl) rfl)))) (ss_one (ss_ret s_bl)) ss_nil)
  (ss_one (ss_expr (s_bm PySem.F.plainAttrs_list PySem.F.slot_list_extend PySem.F.type_list_extend mt_extend extend_ok (by decide) (s_var (i := 2) rfl (.inl rfl) rfl rfl) (s_cons (s_lzip (by rfl) T.b_list rfl (by rfl) T.b_zip (s_cons (s_var (i := 4) rfl (.inl rfl) rfl rfl) (s_cons (s_var (i := 5) rfl (.inl rfl) rfl rfl) s_nil rfl) rfl) rfl rfl rfl) s_nil rfl) rfl rfl rfl rfl rfl) rfl))) (ss_one (ss_if (s_cmpT (op_neA hr.u64) ne_ok (s_var (i := 4) rfl (.inl rfl) rfl rfl) (s_var (i := 5) rfl (.inl rfl) rfl rfl) rfl) (ss_one (ss_ret s_bl)) ss_nil)))))))))
  (ss_one (ss_ret s_bl))))) pure__law_alike
theorem s__law_below : FnScope ["one", "other", "few", "many"] ["one", "other"] (defScope t__law_below) := ⟨rfl, rfl, rfl, by decide +kernel, rfl, by decide +kernel, by decide +kernel⟩
theorem c__law_below (T : Txt K mg) : Callee P w K mg base 1 "_law_below" sp__law_below := by
  have S := s__law_below
  obtain ⟨f, fd, hm, F⟩ := T.f__law_below
  exact callee_of (t := d__law_below) F hm S (F.binds fun _ _ _ _ _ _ us hl => match us, hl with | [_, _], _ => rfl) len__law_below (fun cdv A outer s H E Z EP hr tk =>
  (ss_one (ss_ret (s_cmp (op_eqA hr.u64) eq_ok (s_lc (own := [("few", 2), ("many", 3)]) rfl S.nd (si_zip2 (by rfl) T.b_zip (s_cons (s_var (i := 0) rfl (.inl rfl) rfl rfl) (s_cons (s_var (i := 1) rfl (.inl rfl) rfl rfl) s_nil rfl) rfl) rfl rfl) (blkOk_by (by first | rfl | kernel_rfl)) (fun _ _ _ _ _ => (sg_tup rfl (sgs_cons (sg_name (i := 2) S.nd rfl (.inl rfl) (.inr rfl) (by decide)) (sgs_cons (sg_name (i := 3) S.nd rfl (.inl rfl) (.inr rfl) (by decide)) sgs_nil rfl) rfl) rfl rfl)) (fun _ _ _ _ _ => (sts_one (s_cmpT op_gt (cmpI_ok (fun i j => decide (j < i))) (s_var (i := 2) rfl (.inl rfl) rfl rfl) (s_var (i := 3) rfl (.inl rfl) rfl rfl) rfl))) (fun _ _ _ _ _ => s_int) (fun _ => rfl)) (s_lst s_nil) rfl)))) pure__law_below
theorem s__law_is_payment : FnScope ["coinage", "price", "thing"] ["coinage", "price", "thing"] (defScope t__law_is_payment) := ⟨rfl, rfl, rfl, by decide +kernel, rfl, by decide +kernel, by decide +kernel⟩
theorem c__law_is_payment (T : Txt K mg) : Callee P w K mg base 3 "_law_is_payment" sp__law_is_payment := by
  have S := s__law_is_payment
  obtain ⟨f, fd, hm, F⟩ := T.f__law_is_payment
  exact callee_of (t := d__law_is_payment) F hm S (F.binds fun _ _ _ _ _ _ us hl => match us, hl with | [_, _, _], _ => rfl) len__law_is_payment (fun cdv A outer s H E Z EP hr tk =>
  (ss_cons (ss_if (s_wt (s_orT (s_notT (s_truth (s_fn (c__law_is_row T) (hr.mono (by decide)) tk (by rfl) (s_cons (s_var (i := 0) rfl (.inl rfl) rfl rfl) (s_cons (s_var (i := 2) rfl (.inl rfl) rfl rfl) s_nil rfl) rfl) rfl rfl rfl) (fun _ => rfl))) (s_or1 (s_cmpT op_gt (cmpI_ok (fun i j => decide (j < i))) (s_callB (cr_sumK rfl) sum_ok (by rfl) T.b_sum (by decide +kernel) (s_cons (s_var (i := 2) rfl (.inl rfl) rfl rfl) s_nil rfl) (by decide) rfl rfl rfl) s_int rfl)))) (ss_one (ss_ret s_bl)) ss_nil)
  (ss_one (ss_ret (s_cmp op_ge (cmpI_ok (fun i j => decide (j ≤ i))) (s_fn (c__law_worth T) (hr.mono (by decide)) tk (by rfl) (s_cons (s_var (i := 0) rfl (.inl rfl) rfl rfl) (s_cons (s_var (i := 2) rfl (.inl rfl) rfl rfl) s_nil rfl) rfl) rfl rfl rfl) (s_var (i := 1) rfl (.inl rfl) rfl rfl) rfl))))) pure__law_is_payment
theorem s__law_idle : FnScope ["coinage", "price", "paid", "rest", "kind", "many"] ["coinage", "price", "paid"] (defScope t__law_idle) := ⟨rfl, rfl, rfl, by decide +kernel, rfl, by decide +kernel, by decide +kernel⟩
theorem c__law_idle (T : Txt K mg) : Callee P w K mg base 2 "_law_idle" sp__law_idle := by
  have S := s__law_idle
  obtain ⟨f, fd, hm, F⟩ := T.f__law_idle
  exact callee_of (t := d__law_idle) F hm S (F.binds fun _ _ _ _ _ _ us hl => match us, hl with | [_, _, _], _ => rfl) len__law_idle (fun cdv A outer s H E Z EP hr tk =>
  (ss_cons (ss_asg (s_op op_sub sub_ok (s_fn (c__law_worth T) (hr.mono (by decide)) tk (by rfl) (s_cons (s_var (i := 0) rfl (.inr (.inl rfl)) rfl rfl) (s_cons (s_var (i := 2) rfl (.inl rfl) rfl rfl) s_nil rfl) rfl) rfl rfl rfl) (s_var (i := 1) rfl (.inl rfl) rfl rfl)) (sg_name (vs := List.range 99) (i := 3) S.nd rfl (.inr rfl) (.inl rfl) (by decide)) rfl rfl rfl)
  (ss_one (ss_ret (s_callTy call_tuple_of tuple1_ok (by rfl) T.b_tuple (by decide +kernel) (s_cons (s_lc (own := [("kind", 4), ("many", 5)]) rfl S.nd (si_enum (by rfl) T.b_enumerate (s_cons (s_var (i := 2) rfl (.inl rfl) rfl rfl) s_nil rfl) rfl) (blkOk_by (by first | rfl | kernel_rfl)) (fun _ _ _ _ _ => (sg_tup rfl (sgs_cons (sg_name (i := 4) S.nd rfl (.inl rfl) (.inr rfl) (by decide)) (sgs_cons (sg_name (i := 5) S.nd rfl (.inl rfl) (.inr rfl) (by decide)) sgs_nil rfl) rfl) rfl rfl)) (fun _ _ _ _ _ => (sts_one (s_wt (s_andT (s_cmpT op_gt (cmpI_ok (fun i j => decide (j < i))) (s_var (i := 5) rfl (.inl rfl) rfl rfl) s_int rfl) (s_and1 (s_cmpT op_le (cmpI_ok (fun i j => decide (i ≤ j))) (s_ix ix_seq ix_ok (s_ix ix_seq ix_ok (s_var (i := 0) rfl (.inr (.inl rfl)) rfl rfl) s_int (fun _ _ => rfl)) (s_var (i := 4) rfl (.inl rfl) rfl rfl) (fun _ _ => rfl)) (s_var (i := 3) rfl (.inr (.inl rfl)) rfl rfl) rfl)))))) (fun _ _ _ _ _ => (s_var (i := 4) rfl (.inl rfl) rfl rfl)) (fun _ => rfl)) s_nil rfl) (by decide) rfl rfl rfl))))) pure__law_idle
theorem s__law_tightened : FnScope ["coinage", "price", "paid", "rest", "found", "kind", "few"] ["coinage", "price", "paid"] (defScope t__law_tightened) := ⟨rfl, rfl, rfl, by decide +kernel, rfl, by decide +kernel, by decide +kernel⟩
theorem c__law_tightened (T : Txt K mg) : Callee P w K mg base 2 "_law_tightened" sp__law_tightened := by
  have S := s__law_tightened
  obtain ⟨f, fd, hm, F⟩ := T.f__law_tightened
  exact callee_of (t := d__law_tightened) F hm S (F.binds fun _ _ _ _ _ _ us hl => match us, hl with | [_, _, _], _ => rfl) len__law_tightened (fun cdv A outer s H E Z EP hr tk =>
  (ss_cons (ss_par (i := 3) (j := 4) rfl S.nd rfl rfl (by decide) rfl rfl (s_cons (s_op op_sub sub_ok (s_fn (c__law_worth T) (hr.mono (by decide)) tk (by rfl) (s_cons (s_var (i := 0) rfl (.inl rfl) rfl rfl) (s_cons (s_var (i := 2) rfl (.inl rfl) rfl rfl) s_nil rfl) rfl) rfl rfl rfl) (s_var (i := 1) rfl (.inl rfl) rfl rfl)) (s_cons (s_callTy call_list_of list1_ok (by rfl) T.b_list (by decide +kernel) (s_cons (s_var (i := 2) rfl (.inl rfl) rfl rfl) s_nil rfl) (by decide) rfl rfl rfl) s_nil rfl) rfl) rfl rfl)
  (ss_cons (ss_for (L2.passes_of rfl) rfl (si_rng3 (by rfl) T.b_range (s_cons (s_op op_sub sub_ok (s_callB cr_len len_ok (by rfl) T.b_len (by decide +kernel) (s_cons (s_var (i := 2) rfl (.inl rfl) rfl rfl) s_nil rfl) (by decide) rfl rfl rfl) s_int) (s_cons (s_un un_neg neg_ok s_int) (s_cons (s_un un_neg neg_ok s_int) s_nil rfl) rfl) rfl) rfl rfl) (sg_name (vs := List.range 99) (i := 5) S.nd rfl (.inl rfl) (.inr rfl) (by decide)) (ss_cons (ss_asg (s_callB (call_min2 rfl) min2_ok (by rfl) T.b_min (by decide +kernel) (s_cons (s_ix ix_seq ix_ok (s_var (i := 4) rfl (.inl rfl) rfl rfl) (s_var (i := 5) rfl (.inl rfl) rfl rfl) (fun _ _ => rfl)) (s_cons (s_callTy call_int1 int_ok (by rfl) T.b_int (by decide +kernel) (s_cons (s_op op_fdivW fdiv_ok (s_var (i := 3) rfl (.inl rfl) rfl rfl) (s_ix ix_seq ix_ok (s_ix ix_seq ix_ok (s_var (i := 0) rfl (.inl rfl) rfl rfl) s_int (fun _ _ => rfl)) (s_var (i := 5) rfl (.inl rfl) rfl rfl) (fun _ _ => rfl))) s_nil rfl) (by decide) rfl rfl rfl) s_nil rfl) rfl) (by decide) rfl rfl rfl) (sg_name (vs := List.range 99) (i := 6) S.nd rfl (.inl rfl) (.inr rfl) (by decide)) rfl rfl rfl)
  (ss_one (ss_asg (s_tup (s_cons (s_op op_sub sub_ok (s_ix ix_seq ix_ok (s_var (i := 4) rfl (.inl rfl) rfl rfl) (s_var (i := 5) rfl (.inl rfl) rfl rfl) (fun _ _ => rfl)) (s_var (i := 6) rfl (.inl rfl) rfl rfl)) (s_cons (s_op op_sub sub_ok (s_var (i := 3) rfl (.inl rfl) rfl rfl) (s_op op_mulAll mul_ok (s_var (i := 6) rfl (.inl rfl) rfl rfl) (s_ix ix_seq ix_ok (s_ix ix_seq ix_ok (s_var (i := 0) rfl (.inl rfl) rfl rfl) s_int (fun _ _ => rfl)) (s_var (i := 5) rfl (.inl rfl) rfl rfl) (fun _ _ => rfl)))) s_nil rfl) rfl)) (sg_tup rfl (sgs_cons (sg_sub (vs := List.range 99) set_list setL_ok (s_var (i := 4) rfl (.inl rfl) rfl rfl) (s_var (i := 5) rfl (.inl rfl) rfl rfl) (fun _ => rfl)) (sgs_cons (sg_name (vs := List.range 99) (i := 3) S.nd rfl (.inl rfl) (.inr rfl) (by decide)) sgs_nil rfl) rfl) rfl rfl) rfl rfl rfl))) (fun _ => rfl))
  (ss_one (ss_ret (s_callTy call_tuple_of tuple1_ok (by rfl) T.b_tuple (by decide +kernel) (s_cons (s_var (i := 4) rfl (.inl rfl) rfl rfl) s_nil rfl) (by decide) rfl rfl rfl)))))) pure__law_tightened
theorem s_law : FnScope ["script", "bag", "turn", "coinage", "row", "kept", "price", "things", "at", "odd", "thing", "is_one", "again", "tight", "told", "less", "due", "kind", "many"] ["script"] (defScope t_law) := ⟨rfl, rfl, rfl, by decide +kernel, rfl, by decide +kernel, by decide +kernel⟩
theorem c_law (T : Txt K mg) : Callee P w K mg base 7 "law" sp_law := by
  have S := s_law
  obtain ⟨f, fd, hm, F⟩ := T.f_law
  exact callee_of (t := d_law) F hm S (F.binds fun _ _ _ _ _ _ us hl => match us, hl with | [_], _ => rfl) len_law (fun cdv A outer s H E Z EP hr tk =>
  (ss_cons (ss_asg (s_fn (c__law_bag T) (hr.mono (by decide)) tk (by rfl) (s_cons (s_var (i := 0) rfl (.inl rfl) rfl rfl) s_nil rfl) rfl rfl rfl) (sg_name (vs := List.range 99) (i := 1) S.nd rfl (.inl rfl) (.inr rfl) (by decide)) rfl rfl rfl)
  (ss_cons (ss_for (L2.passes_of rfl) rfl (si_rng1 (by rfl) T.b_range (s_cons s_int s_nil rfl) rfl) (sg_name (vs := List.range 99) (i := 2) S.nd rfl (.inl rfl) (.inr rfl) (by decide)) (ss_cons (ss_asg (s_fn (c__law_coinage T) (hr.mono (by decide)) tk (by rfl) (s_cons (s_var (i := 1) rfl (.inl rfl) rfl rfl) (s_cons (s_op op_addAll add_ok s_int (s_fn (c__law_take T) (hr.mono (by decide)) tk (by rfl) (s_cons (s_var (i := 1) rfl (.inl rfl) rfl rfl) (s_cons s_int s_nil rfl) rfl) rfl rfl rfl)) (s_cons s_int (s_cons s_int s_nil rfl) rfl) rfl) rfl) rfl rfl rfl) (sg_name (vs := List.range 99) (i := 3) S.nd rfl (.inr rfl) (.inl rfl) (by decide)) rfl rfl rfl)
  (ss_cons (ss_par (i := 4) (j := 5) rfl S.nd rfl rfl (by decide) rfl rfl (s_cons (s_fn (c__law_row T) (hr.mono (by decide)) tk (by rfl) (s_cons (s_var (i := 1) rfl (.inl rfl) rfl rfl) (s_cons (s_var (i := 3) rfl (.inr (.inl rfl)) rfl rfl) (s_cons s_int s_nil rfl) rfl) rfl) rfl rfl rfl) (s_cons (s_callB (cr_reprD hr) repr_ok (by rfl) T.b_repr (by decide +kernel) (s_cons (s_var (i := 3) rfl (.inr (.inl rfl)) rfl rfl) s_nil rfl) (by decide) rfl rfl rfl) s_nil rfl) rfl) rfl rfl)
  (ss_cons (ss_asg (s_fn (c__law_some T) (hr.mono (by decide)) tk (by rfl) (s_cons (s_var (i := 1) rfl (.inl rfl) rfl rfl) (s_cons (s_lst (s_cons s_int (s_cons (s_fn (c__law_worth T) (hr.mono (by decide)) tk (by rfl) (s_cons (s_var (i := 3) rfl (.inr (.inl rfl)) rfl rfl) (s_cons (s_var (i := 4) rfl (.inl rfl) rfl rfl) s_nil rfl) rfl) rfl rfl rfl) (s_cons (s_fn (c__law_take T) (hr.mono (by decide)) tk (by rfl) (s_cons (s_var (i := 1) rfl (.inl rfl) rfl rfl) (s_cons s_int s_nil rfl) rfl) rfl rfl rfl) (s_cons (s_fn (c__law_take T) (hr.mono (by decide)) tk (by rfl) (s_cons (s_var (i := 1) rfl (.inl rfl) rfl rfl) (s_cons s_int s_nil rfl) rfl) rfl rfl rfl) (s_cons s_int s_nil rfl) rfl) rfl) rfl) rfl)) s_nil rfl) rfl) rfl rfl rfl) (sg_name (vs := List.range 99) (i := 6) S.nd rfl (.inl rfl) (.inr rfl) (by decide)) rfl rfl rfl)
  (ss_cons (ss_asg (s_lst (s_cons (s_var (i := 4) rfl (.inl rfl) rfl rfl) (s_cons (s_op op_mulAll mul_ok (s_tup (s_cons s_int s_nil rfl)) (s_callB cr_len len_ok (by rfl) T.b_len (by decide +kernel) (s_cons (s_var (i := 4) rfl (.inl rfl) rfl rfl) s_nil rfl) (by decide) rfl rfl rfl)) (s_cons s_non (s_cons (s_tup s_nil) (s_cons (s_callTy call_list_of list1_ok (by rfl) T.b_list (by decide +kernel) (s_cons (s_var (i := 4) rfl (.inl rfl) rfl rfl) s_nil rfl) (by decide) rfl rfl rfl) s_nil rfl) rfl) rfl) rfl) rfl)) (sg_name (vs := List.range 99) (i := 7) S.nd rfl (.inl rfl) (.inr rfl) (by decide)) rfl rfl rfl)
  (ss_cons (ss_asg (s_op op_addAll add_ok (s_var (i := 7) rfl (.inl rfl) rfl rfl) (s_lst (s_cons (s_op op_addAll add_ok (s_var (i := 4) rfl (.inl rfl) rfl rfl) (s_tup (s_cons s_int s_nil rfl))) (s_cons (s_slice sl_all sl_ok (s_var (i := 4) rfl (.inl rfl) rfl rfl) (s_part s_int) s_noPart) (s_cons s_str (s_cons (s_op op_addAll add_ok (s_tup (s_cons s_int s_nil rfl)) (s_slice sl_all sl_ok (s_var (i := 4) rfl (.inl rfl) rfl rfl) (s_part s_int) s_noPart)) (s_cons (s_op op_mulAll mul_ok (s_tup (s_cons s_int s_nil rfl)) (s_callB cr_len len_ok (by rfl) T.b_len (by decide +kernel) (s_cons (s_var (i := 4) rfl (.inl rfl) rfl rfl) s_nil rfl) (by decide) rfl rfl rfl)) s_nil rfl) rfl) rfl) rfl) rfl))) (sg_name (vs := List.range 99) (i := 7) S.nd rfl (.inl rfl) (.inr rfl) (by decide)) rfl rfl rfl)
  (ss_cons (ss_asg (s_fn (c__law_take T) (hr.mono (by decide)) tk (by rfl) (s_cons (s_var (i := 1) rfl (.inl rfl) rfl rfl) (s_cons (s_callB cr_len len_ok (by rfl) T.b_len (by decide +kernel) (s_cons (s_var (i := 4) rfl (.inl rfl) rfl rfl) s_nil rfl) (by decide) rfl rfl rfl) s_nil rfl) rfl) rfl rfl rfl) (sg_name (vs := List.range 99) (i := 8) S.nd rfl (.inl rfl) (.inr rfl) (by decide)) rfl rfl rfl)
  (ss_cons (ss_for (L2.passes_of rfl) rfl (si_any (s_tup (s_cons (s_un un_neg neg_ok s_int) (s_cons s_bl (s_cons s_non (s_cons s_str (s_cons (s_op op_addAll add_ok (s_ix ix_seq ix_ok (s_var (i := 4) rfl (.inl rfl) rfl rfl) (s_var (i := 8) rfl (.inl rfl) rfl rfl) (fun _ _ => rfl)) s_int) (s_cons s_int (s_cons s_int s_nil rfl) rfl) rfl) rfl) rfl) rfl) rfl))) (sg_name (vs := List.range 99) (i := 9) S.nd rfl (.inl rfl) (.inr rfl) (by decide)) (ss_one (ss_expr (s_bm PySem.F.plainAttrs_list PySem.F.slot_list_append PySem.F.type_list_append mt_append append_ok (by decide) (s_var (i := 7) rfl (.inl rfl) rfl rfl) (s_cons (s_op op_addAll add_ok (s_op op_addAll add_ok (s_slice sl_all sl_ok (s_var (i := 4) rfl (.inl rfl) rfl rfl) s_noPart (s_part (s_var (i := 8) rfl (.inl rfl) rfl rfl))) (s_tup (s_cons (s_var (i := 9) rfl (.inl rfl) rfl rfl) s_nil rfl))) (s_slice sl_all sl_ok (s_var (i := 4) rfl (.inl rfl) rfl rfl) (s_part (s_op op_addAll add_ok (s_var (i := 8) rfl (.inl rfl) rfl rfl) s_int)) s_noPart)) s_nil rfl) rfl rfl rfl rfl rfl) rfl)) (fun _ => rfl))
  (ss_one (ss_for (L2.passes_of rfl) rfl (si_any (s_var (i := 7) rfl (.inl rfl) rfl rfl)) (sg_name (vs := List.range 99) (i := 10) S.nd rfl (.inl rfl) (.inr rfl) (by decide)) (ss_cons (ss_asg (s_fn (c__law_is_payment T) (hr.mono (by decide)) tk (by rfl) (s_cons (s_var (i := 3) rfl (.inr (.inl rfl)) rfl rfl) (s_cons (s_var (i := 6) rfl (.inl rfl) rfl rfl) (s_cons (s_var (i := 10) rfl (.inl rfl) rfl rfl) s_nil rfl) rfl) rfl) rfl rfl rfl) (sg_name (vs := List.range 99) (i := 11) S.nd rfl (.inl rfl) (.inr rfl) (by decide)) rfl rfl rfl)
  (ss_cons (ss_for (L2.passes_of rfl) rfl (si_rng1 (by rfl) T.b_range (s_cons s_int s_nil rfl) rfl) (sg_name (vs := List.range 99) (i := 12) S.nd rfl (.inl rfl) (.inr rfl) (by decide)) (ss_cons (ss_asg (s_and (s_var (i := 11) rfl (.inl rfl) rfl rfl) (s_one (s_cmp (op_eqA hr.u64) eq_ok (s_fn (c__law_idle T) (hr.mono (by decide)) tk (by rfl) (s_cons (s_var (i := 3) rfl (.inr (.inl rfl)) rfl rfl) (s_cons (s_var (i := 6) rfl (.inl rfl) rfl rfl) (s_cons (s_var (i := 10) rfl (.inl rfl) rfl rfl) s_nil rfl) rfl) rfl) rfl rfl rfl) (s_tup s_nil) rfl))) (sg_name (vs := List.range 99) (i := 13) S.nd rfl (.inl rfl) (.inr rfl) (by decide)) rfl rfl rfl)
  (ss_cons (ss_asg (s_lst (s_cons (s_fn (c_is_payment T) (hr.mono (by decide)) tk (by rfl) (s_cons (s_var (i := 3) rfl (.inr (.inl rfl)) rfl rfl) (s_cons (s_var (i := 6) rfl (.inl rfl) rfl rfl) (s_cons (s_var (i := 10) rfl (.inl rfl) rfl rfl) s_nil rfl) rfl) rfl) rfl rfl rfl) (s_cons (s_fn (c_is_tight T) (hr.mono (by decide)) tk (by rfl) (s_cons (s_var (i := 3) rfl (.inr (.inl rfl)) rfl rfl) (s_cons (s_var (i := 6) rfl (.inl rfl) rfl rfl) (s_cons (s_var (i := 10) rfl (.inl rfl) rfl rfl) s_nil rfl) rfl) rfl) rfl rfl rfl) s_nil rfl) rfl)) (sg_name (vs := List.range 99) (i := 14) S.nd rfl (.inl rfl) (.inr rfl) (by decide)) rfl rfl rfl)
  (ss_one (ss_if (s_wt (s_orT (s_notT (s_truth (s_fn (c__law_alike T) (hr.mono (by decide)) tk (by rfl) (s_cons (s_var (i := 14) rfl (.inl rfl) rfl rfl) (s_cons (s_lst (s_cons (s_var (i := 11) rfl (.inl rfl) rfl rfl) (s_cons (s_var (i := 13) rfl (.inl rfl) rfl rfl) s_nil rfl) rfl)) s_nil rfl) rfl) rfl rfl rfl) (fun _ => rfl))) (s_or1 (s_cmpT (op_neA hr.u64) ne_ok (s_callB (cr_reprD hr) repr_ok (by rfl) T.b_repr (by decide +kernel) (s_cons (s_var (i := 3) rfl (.inr (.inl rfl)) rfl rfl) s_nil rfl) (by decide) rfl rfl rfl) (s_var (i := 5) rfl (.inl rfl) rfl rfl) rfl)))) (ss_one (ss_ret s_bl)) ss_nil)))) (fun _ => rfl))
  (ss_cons (ss_if (s_notT (s_truth (s_var (i := 11) rfl (.inl rfl) rfl rfl) (fun _ => rfl))) (ss_one ss_continue) ss_nil)
  (ss_cons (ss_asg (s_fn (c__law_tightened T) (hr.mono (by decide)) tk (by rfl) (s_cons (s_var (i := 3) rfl (.inr (.inl rfl)) rfl rfl) (s_cons (s_var (i := 6) rfl (.inl rfl) rfl rfl) (s_cons (s_var (i := 10) rfl (.inl rfl) rfl rfl) s_nil rfl) rfl) rfl) rfl rfl rfl) (sg_name (vs := List.range 99) (i := 15) S.nd rfl (.inl rfl) (.inr rfl) (by decide)) rfl rfl rfl)
  (ss_cons (ss_asg (s_lst (s_cons (s_fn (c_idle_kinds T) (hr.mono (by decide)) tk (by rfl) (s_cons (s_var (i := 3) rfl (.inr (.inl rfl)) rfl rfl) (s_cons (s_var (i := 6) rfl (.inl rfl) rfl rfl) (s_cons (s_var (i := 10) rfl (.inl rfl) rfl rfl) s_nil rfl) rfl) rfl) rfl rfl rfl) (s_cons (s_fn (c_tightened T) (hr.mono (by decide)) tk (by rfl) (s_cons (s_var (i := 3) rfl (.inr (.inl rfl)) rfl rfl) (s_cons (s_var (i := 6) rfl (.inl rfl) rfl rfl) (s_cons (s_var (i := 10) rfl (.inl rfl) rfl rfl) s_nil rfl) rfl) rfl) rfl rfl rfl) s_nil rfl) rfl)) (sg_name (vs := List.range 99) (i := 14) S.nd rfl (.inl rfl) (.inr rfl) (by decide)) rfl rfl rfl)
  (ss_cons (ss_if (s_notT (s_truth (s_fn (c__law_alike T) (hr.mono (by decide)) tk (by rfl) (s_cons (s_var (i := 14) rfl (.inl rfl) rfl rfl) (s_cons (s_lst (s_cons (s_fn (c__law_idle T) (hr.mono (by decide)) tk (by rfl) (s_cons (s_var (i := 3) rfl (.inr (.inl rfl)) rfl rfl) (s_cons (s_var (i := 6) rfl (.inl rfl) rfl rfl) (s_cons (s_var (i := 10) rfl (.inl rfl) rfl rfl) s_nil rfl) rfl) rfl) rfl rfl rfl) (s_cons (s_var (i := 15) rfl (.inl rfl) rfl rfl) s_nil rfl) rfl)) s_nil rfl) rfl) rfl rfl rfl) (fun _ => rfl))) (ss_one (ss_ret s_bl)) ss_nil)
  (ss_cons (ss_if (s_wt (s_orT (s_cmpT op_isNotAll (is_ok true) (s_fn (c_is_tight T) (hr.mono (by decide)) tk (by rfl) (s_cons (s_var (i := 3) rfl (.inr (.inl rfl)) rfl rfl) (s_cons (s_var (i := 6) rfl (.inl rfl) rfl rfl) (s_cons (s_var (i := 15) rfl (.inl rfl) rfl rfl) s_nil rfl) rfl) rfl) rfl rfl rfl) s_bl rfl) (s_or1 (s_notT (s_truth (s_fn (c__law_below T) (hr.mono (by decide)) tk (by rfl) (s_cons (s_var (i := 15) rfl (.inl rfl) rfl rfl) (s_cons (s_var (i := 10) rfl (.inl rfl) rfl rfl) s_nil rfl) rfl) rfl rfl rfl) (fun _ => rfl)))))) (ss_one (ss_ret s_bl)) ss_nil)
  (ss_cons (ss_asg (s_op op_sub sub_ok (s_fn (c__law_worth T) (hr.mono (by decide)) tk (by rfl) (s_cons (s_var (i := 3) rfl (.inr (.inl rfl)) rfl rfl) (s_cons (s_var (i := 10) rfl (.inl rfl) rfl rfl) s_nil rfl) rfl) rfl rfl rfl) (s_var (i := 6) rfl (.inl rfl) rfl rfl)) (sg_name (vs := List.range 99) (i := 16) S.nd rfl (.inr rfl) (.inl rfl) (by decide)) rfl rfl rfl)
  (ss_one (ss_if (s_cmpT (op_neA hr.u64) ne_ok (s_var (i := 13) rfl (.inl rfl) rfl rfl) (s_cmp (op_eqA hr.u64) eq_ok (s_lc (own := [("kind", 17), ("many", 18)]) rfl S.nd (si_enum (by rfl) T.b_enumerate (s_cons (s_var (i := 10) rfl (.inl rfl) rfl rfl) s_nil rfl) rfl) (blkOk_by (by first | rfl | kernel_rfl)) (fun _ _ _ _ _ => (sg_tup rfl (sgs_cons (sg_name (i := 17) S.nd rfl (.inl rfl) (.inr rfl) (by decide)) (sgs_cons (sg_name (i := 18) S.nd rfl (.inl rfl) (.inr rfl) (by decide)) sgs_nil rfl) rfl) rfl rfl)) (fun _ _ _ _ _ => (sts_one (s_wt (s_andT (s_cmpT op_gt (cmpI_ok (fun i j => decide (j < i))) (s_var (i := 18) rfl (.inl rfl) rfl rfl) s_int rfl) (s_and1 (s_cmpT op_le (cmpI_ok (fun i j => decide (i ≤ j))) (s_ix ix_seq ix_ok (s_ix ix_seq ix_ok (s_var (i := 3) rfl (.inr (.inl rfl)) rfl rfl) s_int (fun _ _ => rfl)) (s_var (i := 17) rfl (.inl rfl) rfl rfl) (fun _ _ => rfl)) (s_var (i := 16) rfl (.inr (.inl rfl)) rfl rfl) rfl)))))) (fun _ _ _ _ _ => s_int) (fun _ => rfl)) (s_lst s_nil) rfl) rfl) (ss_one (ss_ret s_bl)) ss_nil)))))))))) (fun _ => rfl)))))))))) (fun _ => rfl))
  (ss_one (ss_ret s_bl))))) pure_law
end
end K43

set_option Elab.async false
set_option linter.all false
set_option maxRecDepth 100000
set_option maxHeartbeats 0
namespace K43
open PySem PySem.Spec PyProof.Rows L2 RZ DL
def fnl_0 : List He.DefD := [dd "is_integer" t_is_integer, dd "are_all" t_are_all, dd "are_integers" t_are_integers, dd "kinds" t_kinds, dd "is_row" t_is_row, dd "worth" t_worth, dd "is_payment" t_is_payment, dd "idle_kinds" t_idle_kinds, dd "is_tight" t_is_tight, dd "tightened" t_tightened, dd "_law_is_int" t__law_is_int, dd "_law_is_row" t__law_is_row, dd "_law_worth" t__law_worth, dd "_law_bag" t__law_bag, dd "_law_take" t__law_take, dd "_law_some" t__law_some, dd "_law_mixed" t__law_mixed, dd "_law_coinage" t__law_coinage, dd "_law_row" t__law_row, dd "_law_alike" t__law_alike, dd "_law_below" t__law_below, dd "_law_is_payment" t__law_is_payment, dd "_law_idle" t__law_idle, dd "_law_tightened" t__law_tightened, dd "law" t_law]
def fnl : List He.DefD := fnl_0
def fal_0 : List He.Fa := [.glo "is_integer", .glo "are_all", .glo "are_integers", .glo "kinds", .glo "is_row", .glo "worth", .glo "is_payment", .glo "idle_kinds", .glo "is_tight", .glo "tightened", .glo "_law_is_int", .glo "_law_is_row", .glo "_law_worth", .glo "_law_bag", .glo "_law_take", .glo "_law_some", .glo "_law_mixed", .glo "_law_coinage", .glo "_law_row", .glo "_law_alike", .glo "_law_below", .glo "_law_is_payment", .glo "_law_idle", .glo "_law_tightened", .glo "law", .free "abs", .free "all", .free "bool", .free "enumerate", .free "int"]
def fal_1 : List He.Fa := [.free "isinstance", .free "len", .free "list", .free "min", .free "range", .free "repr", .free "sorted", .free "str", .free "sum", .free "tuple", .free "zip", .int "MOST_COINS" 20]
def fal : List He.Fa := fal_0 ++ fal_1
def nms_0 : List PySem.Str := ["is_integer", "are_all", "are_integers", "kinds", "is_row", "worth", "is_payment", "idle_kinds", "is_tight", "tightened", "_law_is_int", "_law_is_row", "_law_worth", "_law_bag", "_law_take", "_law_some", "_law_mixed", "_law_coinage", "_law_row", "_law_alike", "_law_below", "_law_is_payment", "_law_idle", "_law_tightened", "MOST_COINS"]
def nms : List PySem.Str := nms_0
abbrev R : PySem.W.OpenRow := PySem.W.OpenLaw.row PySem.Challenge.rw_coinready_k43_payments_without_idle_coin
abbrev hk : PySem.W.Hook := He.hookD 4 fal fnl
def ob (s : PySem.W.SharedT) : He.AlD := He.obsDG 4 fal fnl (HandSHeadRun.getT s)
theorem ob_eq (s : PySem.W.SharedT) : ob s = hk.obs s.abs := He.obsDG_eq (HandSHeadRun.getT_eq s)
theorem run (w : World) : HandSHeadRun.RunEq R (PySem.W.view R.prog [29]) hk ob 6000 nms w := by
  intro os
  kernel_rfl
theorem txt {K : PySem.W.Frag} {h : Heap} {mg : Str → Option Value} (X : K.In h) (G : h.Ns mainGlobals mg) (c : He.SaysD fal fnl K) : Txt K mg where
  b_abs := txt_free X G c 25 rfl
  b_all := txt_free X G c 26 rfl
  b_bool := txt_free X G c 27 rfl
  b_enumerate := txt_free X G c 28 rfl
  b_int := txt_free X G c 29 rfl
  b_isinstance := txt_free X G c 30 rfl
  b_len := txt_free X G c 31 rfl
  b_list := txt_free X G c 32 rfl
  b_min := txt_free X G c 33 rfl
  b_range := txt_free X G c 34 rfl
  b_repr := txt_free X G c 35 rfl
  b_sorted := txt_free X G c 36 rfl
  b_str := txt_free X G c 37 rfl
  b_sum := txt_free X G c 38 rfl
  b_tuple := txt_free X G c 39 rfl
  b_zip := txt_free X G c 40 rfl
  f_is_integer := txt_fn X G c 0 0 rfl rfl
  f_are_all := txt_fn X G c 1 1 rfl rfl
  f_are_integers := txt_fn X G c 2 2 rfl rfl
  f_kinds := txt_fn X G c 3 3 rfl rfl
  f_is_row := txt_fn X G c 4 4 rfl rfl
  f_worth := txt_fn X G c 5 5 rfl rfl
  f_is_payment := txt_fn X G c 6 6 rfl rfl
  f_idle_kinds := txt_fn X G c 7 7 rfl rfl
  f_is_tight := txt_fn X G c 8 8 rfl rfl
  f_tightened := txt_fn X G c 9 9 rfl rfl
  f__law_is_int := txt_fn X G c 10 10 rfl rfl
  f__law_is_row := txt_fn X G c 11 11 rfl rfl
  f__law_worth := txt_fn X G c 12 12 rfl rfl
  f__law_bag := txt_fn X G c 13 13 rfl rfl
  f__law_take := txt_fn X G c 14 14 rfl rfl
  f__law_some := txt_fn X G c 15 15 rfl rfl
  f__law_mixed := txt_fn X G c 16 16 rfl rfl
  f__law_coinage := txt_fn X G c 17 17 rfl rfl
  f__law_row := txt_fn X G c 18 18 rfl rfl
  f__law_alike := txt_fn X G c 19 19 rfl rfl
  f__law_below := txt_fn X G c 20 20 rfl rfl
  f__law_is_payment := txt_fn X G c 21 21 rfl rfl
  f__law_idle := txt_fn X G c 22 22 rfl rfl
  f__law_tightened := txt_fn X G c 23 23 rfl rfl
  f_law := txt_fn X G c 24 24 rfl rfl
  k_MOST_COINS := txt_int X G c 41 rfl
end K43
open PySem PySem.W PySem.Calls PyProof.Rows
set_option maxHeartbeats 0 in
theorem PySem.Challenge.cw_coinready_k43_payments_without_idle_coin_holds : PySem.Challenge.rw_coinready_k43_payments_without_idle_coin.Holds := by
  w_on; o_law
  refine HandSHeadRun.head_any (r := OpenLaw.row PySem.Challenge.rw_coinready_k43_payments_without_idle_coin) (q := view (OpenLaw.row PySem.Challenge.rw_coinready_k43_payments_without_idle_coin).prog [29]) (H := K43.hk) (ob := K43.ob) (M := 6000) (loose := K43.nms) (d := HandSHeadRun.topDef (OpenLaw.row PySem.Challenge.rw_coinready_k43_payments_without_idle_coin).prog 29) (kwd := []) K43.ob_eq
    (by kernel_rfl) (fun s => by kernel_rfl) K43.run (by kernel_rfl) (by kernel_rfl) (by kernel_rfl) (by rfl) (by first | assumption | decide +kernel) (by decide +kernel) ⟨rfl, rfl, rfl, rfl, rfl, by decide +kernel⟩ ?hw ?hc
  case hw => w_witness2
  case hc =>
    refine DL.walkGE (l := PySem.Challenge.rw_coinready_k43_payments_without_idle_coin) (n := 63) (k := 7) (sp := K43.sp_law) rfl (by decide) (by kernel_rfl) ⟨rfl, by decide, by decide⟩ ?F K43.law_true
    intro w mg h Y G
    obtain ⟨K, KX, c⟩ := Y
    refine ⟨K, KX, fun base _ _ => ?_⟩
    have e : (HandSHeadRun.topDef (OpenLaw.row PySem.Challenge.rw_coinready_k43_payments_without_idle_coin).prog 29).name = ("law" : PySem.Str) := by kernel_rfl
    rw [e]
    exact K43.c_law (K43.txt KX G c)

