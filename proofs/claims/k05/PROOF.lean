import PyProof.Rows.All
import Wide.All
import OpenK.AllK
import Wide.FinOn
import HandS.ForMost
import HandS.ForExc
import HandS.Dict
import HandS.Iter
import HandS.Lambda
import HandS.HeadHook4
import HandS.TupAny
import HandS.TupMul
import HandS.Wide
import HandS.Flow
import HandS.IsInst
import HandS.Style
import HandS.Zip
import HandS.RevRange
import HandS.ListEq
import KE.GoesEnum
import KE.GoesMore
import KE.GoesZip
import KE.KDictZip
import KE.KDictItemsList
import HandS.SortInts
import PyProof.Rows.SumGenD
import PyProof.Rows.InDataRows
import HandS.ExcCtx
import HandS.EndBits
import PyProof.ReprRoads
import HandS.Conv
import HandS.NoneIn
import HandS.SetKeys
import HandS.Star
import KE.SortData
import KE.DataMinMax
import KE.DataCmp
import HandS.SetFor
import HandS.Strs
import HandS.TupSets
import HandS.Flt
import HandS.DictComp
import HandS.TupLen
import HandS.More
import HandS.WordsDict
import HandS.ExcInit
import HandS.Nested
import KE.KExcSuper
import HandS.TryOnly
import HandS.TryMany
import HandS.ExcField
import HandS.Head0
import HandS.Head1
import HandS.Head2
import HandS.HeadEnd
import HandS.HeadHook1
import HandS.HeadHook2
import HandS.HeadNt
import HandS.Sort
import HandS.EndTab
import KE.KExcIs
import HandS.ExcOwn
import HandS.Deep
import KE.KDictMeth
import HandS.SetBool
import HandS.Rev
import HandS.HotCalls
import HandS.Steps
import HandS.Codes
import KE.DataFind
import PySem.Challenge.RW_coinready_k05_gaps_of_endless_coins
set_option Elab.async false
set_option linter.all false
set_option maxRecDepth 100000
set_option maxHeartbeats 4000000
namespace DL
open PySem PySem.Spec PyProof.Rows L2
inductive D where
  | non | bl (b : Bool) | int (i : Int) | str (x : Str) | tup (xs : List D) | ref (a : Addr) | fn (x : Str) | ty (n : String) | lw (xs : List D)
inductive Cell where
  | lst (xs : List D)
  | dK (lk : Option HO) (kvs : List (L2.Key × D))
  | dT (lk : Option HO) (kvs : List (List L2.Key × D))
  | rng (lo hi : Int)
abbrev Sto := Addr → Option Cell
abbrev Nv := List (Option D)
def up1 (S : Sto) (a : Addr) (c : Cell) : Sto := fun b => if b = a then some c else S b
theorem up1_same {S : Sto} {a : Addr} {c : Cell} : up1 S a c a = some c := if_pos rfl
theorem up1_ne {S : Sto} {a b : Addr} {c : Cell} (h : b ≠ a) : up1 S a c b = S b := if_neg h
def TupA (K : PySem.W.Frag) (H : Hp) (a : Addr) (xs : List V) : Prop := H a = some (.tup xs)
theorem TupA.sq {K : PySem.W.Frag} {H : Hp} {a : Addr} {xs : List V} (h : TupA K H a xs) : SqT K H a xs := .inl (.inl h)
def FrzL (K : PySem.W.Frag) (H : Hp) (a : Addr) (xs : List V) : Prop := (∃ o, H a = some (.frz o (.lst xs))) ∨
  ∃ (o : Obj) (its : Array Value) (n : Nat), K.lookup a = some o ∧ o.cls = .type "list" ∧ o.dict = none ∧ o.data = .seq its n ∧ its.size ≤ sizeLine ∧ Vals xs its.toList
theorem FrzL.sq {K : PySem.W.Frag} {H : Hp} {a : Addr} {xs : List V} (h : FrzL K H a xs) : SqL K H a xs := h.imp .inr id
structure Kp (H H' : Hp) : Prop where
  t : ∀ a xs, H a = some (.tup xs) → H' a = some (.tup xs)
  f : ∀ a o xs, H a = some (.frz o (.lst xs)) → H' a = some (.frz o (.lst xs))
theorem Kp.tup {K : PySem.W.Frag} {H H' : Hp} (k : Kp H H') {a : Addr} {xs : List V} (h : TupA K H a xs) : TupA K H' a xs := k.t a xs h
theorem Kp.frz {K : PySem.W.Frag} {H H' : Hp} (k : Kp H H') {a : Addr} {xs : List V} (h : FrzL K H a xs) : FrzL K H' a xs := h.imp (fun ⟨o, e⟩ => ⟨o, k.f a o xs e⟩) id
section
variable (K : PySem.W.Frag) (mg : Str → Option Value)
mutual
inductive Rp (H : Hp) : D → V → Prop where
  | non : Rp H .non .non
  | bl (b : Bool) : Rp H (.bl b) (.bl b)
  | int (i : Int) : Rp H (.int i) (.int i)
  | str (x : Str) : Rp H (.str x) (.str x)
  | ref (a : Addr) : Rp H (.ref a) (.ref a)
  | ty (n : String) : Rp H (.ty n) (.ty n)
  | fn {x : Str} {f : Addr} : mg x = some (.ref f) → Rp H (.fn x) (.ref f)
  | tup {a : Addr} {xs : List V} {ds : List D} : TupA K H a xs → RpL H ds xs → Rp H (.tup ds) (.ref a)
  | lw {a : Addr} {xs : List V} {ds : List D} : FrzL K H a xs → RpL H ds xs → Rp H (.lw ds) (.ref a)
inductive RpL (H : Hp) : List D → List V → Prop where
  | nil : RpL H [] []
  | cons {d : D} {v : V} {ds : List D} {vs : List V} : Rp H d v → RpL H ds vs → RpL H (d :: ds) (v :: vs)
end
end
section
variable {K : PySem.W.Frag} {mg : Str → Option Value} {H H' : Hp}
theorem RpL.length : ∀ {ds : List D} {vs : List V}, RpL K mg H ds vs → ds.length = vs.length
  | _, _, .nil => rfl
  | _, _, .cons _ t => congrArg (· + 1) (RpL.length t)
theorem RpL.get : ∀ {ds : List D} {vs : List V} {i : Nat} {d : D}, RpL K mg H ds vs → ds[i]? = some d → ∃ v, vs[i]? = some v ∧ Rp K mg H d v
  | _, _, i, _, .nil, e => by simp at e
  | _, _, 0, _, .cons r _, e => by simp at e; subst e; exact ⟨_, rfl, r⟩
  | _, _, i + 1, d, .cons _ t, e => by
    obtain ⟨v, h1, h2⟩ := RpL.get (i := i) (d := d) t (by simpa using e)
    exact ⟨v, by simpa using h1, h2⟩
theorem RpL.get' : ∀ {ds : List D} {vs : List V} {i : Nat} {v : V}, RpL K mg H ds vs → vs[i]? = some v → ∃ d, ds[i]? = some d ∧ Rp K mg H d v
  | _, _, i, _, .nil, e => by simp at e
  | _, _, 0, _, .cons r _, e => by simp at e; subst e; exact ⟨_, rfl, r⟩
  | _, _, i + 1, v, .cons _ t, e => by
    obtain ⟨d, h1, h2⟩ := RpL.get' (i := i) (v := v) t (by simpa using e)
    exact ⟨d, by simpa using h1, h2⟩
theorem RpL.set {d : D} {v : V} (r : Rp K mg H d v) : ∀ {ds : List D} {vs : List V} (i : Nat), RpL K mg H ds vs → RpL K mg H (ds.set i d) (vs.set i v)
  | _, _, _, .nil => .nil
  | _, _, 0, .cons _ t => .cons r t
  | _, _, i + 1, .cons q t => .cons q (RpL.set r i t)
theorem RpL.append : ∀ {ds es : List D} {vs ws : List V}, RpL K mg H ds vs → RpL K mg H es ws → RpL K mg H (ds ++ es) (vs ++ ws)
  | _, _, _, _, .nil, s => s
  | _, _, _, _, .cons r t, s => .cons r (RpL.append t s)
theorem RpL.take : ∀ {ds : List D} {vs : List V} (n : Nat), RpL K mg H ds vs → RpL K mg H (ds.take n) (vs.take n)
  | _, _, 0, _ => .nil
  | _, _, _ + 1, .nil => .nil
  | _, _, n + 1, .cons r t => .cons r (RpL.take n t)
theorem RpL.drop : ∀ {ds : List D} {vs : List V} (n : Nat), RpL K mg H ds vs → RpL K mg H (ds.drop n) (vs.drop n)
  | _, _, 0, r => r
  | _, _, _ + 1, .nil => .nil
  | _, _, n + 1, .cons _ t => RpL.drop n t
theorem RpL.eraseIdx : ∀ {ds : List D} {vs : List V} (n : Nat), RpL K mg H ds vs → RpL K mg H (ds.eraseIdx n) (vs.eraseIdx n)
  | _, _, _, .nil => .nil
  | _, _, 0, .cons _ t => t
  | _, _, n + 1, .cons r t => .cons r (RpL.eraseIdx n t)
theorem RpL.one {d : D} {v : V} (r : Rp K mg H d v) : RpL K mg H [d] [v] := .cons r .nil
theorem RpL.reverse : ∀ {ds : List D} {vs : List V}, RpL K mg H ds vs → RpL K mg H ds.reverse vs.reverse
  | _, _, .nil => .nil
  | _, _, .cons r t => by
    rw [List.reverse_cons, List.reverse_cons]
    exact (RpL.reverse t).append (.one r)
theorem RpL.rep {ds : List D} {vs : List V} (h : RpL K mg H ds vs) : ∀ k : Nat, RpL K mg H (List.replicate k ds).flatten (List.replicate k vs).flatten
  | 0 => .nil
  | k + 1 => by
    rw [List.replicate_succ, List.replicate_succ, List.flatten_cons, List.flatten_cons]
    exact h.append (RpL.rep h k)
theorem RpL.ints : ∀ {ns : List Int} {vs : List V}, RpL K mg H (ns.map D.int) vs → vs = ns.map V.int
  | [], _, .nil => rfl
  | _ :: _, _, .cons r t => by cases r; rw [RpL.ints t]; rfl
theorem RpL.of_ints : ∀ (ns : List Int), RpL K mg H (ns.map D.int) (ns.map V.int)
  | [] => .nil
  | n :: r => .cons (.int n) (RpL.of_ints r)
mutual
theorem Rp.mono (k : Kp H H') : ∀ {d : D} {v : V}, Rp K mg H d v → Rp K mg H' d v
  | _, _, .non => .non
  | _, _, .bl b => .bl b
  | _, _, .int i => .int i
  | _, _, .str x => .str x
  | _, _, .ref a => .ref a
  | _, _, .fn e => .fn e
  | _, _, .ty n => .ty n
  | _, _, .tup s r => .tup (k.tup s) (RpL.mono k r)
  | _, _, .lw s r => .lw (k.frz s) (RpL.mono k r)
theorem RpL.mono (k : Kp H H') : ∀ {ds : List D} {vs : List V}, RpL K mg H ds vs → RpL K mg H' ds vs
  | _, _, .nil => .nil
  | _, _, .cons r t => .cons (Rp.mono k r) (RpL.mono k t)
end
end
def KR {κ : Type} (K : PySem.W.Frag) (mg : Str → Option Value) (H : Hp) : List (κ × D) → List (κ × V) → Prop := Paired fun p q => p.1 = q.1 ∧ Rp K mg H p.2 q.2
theorem KR.mono {κ : Type} {K : PySem.W.Frag} {mg : Str → Option Value} {H H' : Hp} (k : Kp H H') {kvs : List (κ × D)} {ws : List (κ × V)} (r : KR K mg H kvs ws) : KR K mg H' kvs ws := by
  unfold KR at r ⊢
  induction r with
  | nil => exact .nil
  | cons h _ ih => exact .cons ⟨h.1, h.2.mono k⟩ ih
def Lk (lk : Option HO) (u u' : HO) : Prop := match lk with
  | none => u = u'
  | some l => u = l ∧ ∃ o, l = .frz o u'
theorem Lk.rd {lk : Option HO} {u u' : HO} {H : Hp} {a : Addr} (l : Lk lk u u') (h : H a = some u) : Rd H a u' := by
  cases lk with
  | none => exact .inl (h.trans (congrArg some l))
  | some k =>
    obtain ⟨rfl, o, rfl⟩ := l
    exact .inr ⟨o, h⟩
theorem Lk.no {lk : Option HO} {u' : HO} {xs : List V} (l : Lk lk (.tup xs) u') (h : u' ≠ .tup xs) : False := by
  cases lk with
  | none => exact h (Eq.symm l)
  | some k =>
    obtain ⟨rfl, o, e⟩ := l
    cases e
theorem Lk.noF {lk : Option HO} {u' : HO} {xs : List V} {o : Obj} (l : Lk lk (.frz o (.lst xs)) u') (h : ∀ o xs, u' ≠ .frz o xs) (h2 : ∀ xs, u' ≠ .lst xs) : False := by
  cases lk with
  | none => exact h _ _ (Eq.symm l)
  | some k =>
    obtain ⟨rfl, o, e⟩ := l
    cases e
    exact h2 _ rfl
inductive RpC (K : PySem.W.Frag) (mg : Str → Option Value) (H : Hp) : Cell → HO → Prop where
  | lst {ds : List D} {xs : List V} : RpL K mg H ds xs → RpC K mg H (.lst ds) (.lst xs)
  | dK {lk : Option HO} {kvs : List (L2.Key × D)} {ws : List (L2.Key × V)} {u : HO} : Lk lk u (.dK ws) → KR K mg H kvs ws → RpC K mg H (.dK lk kvs) u
  | dT {lk : Option HO} {kvs : List (List L2.Key × D)} {ws : List (List L2.Key × V)} {u : HO} : Lk lk u (.dT ws) → KR K mg H kvs ws → RpC K mg H (.dT lk kvs) u
  | rng {lo hi : Int} : RpC K mg H (.rng lo hi) (.rng lo hi)
def tabsK (K : PySem.W.Frag) : List (Addr × Str) := K.filterMap fun p => match p.2.data with
  | .func fd => (match fd.code with
    | .ref c => some (He.tabOf K c, fd.qualname ++ ".<locals>." ++ "<lambda>")
    | _ => none)
  | _ => none
def lamB (K : PySem.W.Frag) : Bool := (tabsK K).all fun p => (K.lookup p.1).isNone
def TabO (S : Sto) (H : Hp) (P : Addr) (q : Str) : Prop := S P = none ∧ ∃ ps : Array Value, H P = some (.tbl ps) ∧ TriplesOk ps.toList ∧ ∀ (pos : Pos) (cv : Value), codeAmong pos ps.toList = some cv → ∃ c, cv = .ref c ∧ S c = none ∧ H c = some (LamX.CodeO c q)
def TabsM (K : PySem.W.Frag) (S : Sto) (H : Hp) : Prop := lamB K = true → ∀ p ∈ tabsK K, TabO S H p.1 p.2
structure StO (K : PySem.W.Frag) (mg : Str → Option Value) (S : Sto) (H : Hp) : Prop where
  cell : ∀ a c, S a = some c → ∃ o, H a = some o ∧ RpC K mg H c o
  tab : TabsM K S H
instance {K : PySem.W.Frag} {mg : Str → Option Value} {S : Sto} {H : Hp} : CoeFun (StO K mg S H) fun _ => ∀ a c, S a = some c → ∃ o, H a = some o ∧ RpC K mg H c o := ⟨StO.cell⟩
theorem TabO.to {S S' : Sto} {H H' : Hp} {P : Addr} {q : Str} (t : TabO S H P q) (hk : ∀ a o, H a = some o → S a = none → (∀ xs, o ≠ .lst xs) → H' a = some o) (hs : ∀ a, S a = none → H a ≠ none → (∀ xs, H a ≠ some (.lst xs)) → S' a = none) : TabO S' H' P q := by
  obtain ⟨n, ps, h, ok, all⟩ := t
  refine ⟨hs P n (by rw [h]; simp) (by rw [h]; simp), ps, hk _ _ h n (by simp), ok, fun pos cv hc => ?_⟩
  obtain ⟨c, e, n1, h1⟩ := all pos cv hc
  have no : ∀ xs, LamX.CodeO c q ≠ .lst xs := fun xs z => by unfold LamX.CodeO at z; cases z
  exact ⟨c, e, hs c n1 (by rw [h1]; simp) (fun xs z => by rw [h1] at z; exact no xs (Option.some.inj z)), hk _ _ h1 n1 no⟩
theorem TabsM.to {K : PySem.W.Frag} {S S' : Sto} {H H' : Hp} (t : TabsM K S H) (hk : ∀ a o, H a = some o → S a = none → (∀ xs, o ≠ .lst xs) → H' a = some o) (hs : ∀ a, S a = none → H a ≠ none → (∀ xs, H a ≠ some (.lst xs)) → S' a = none) : TabsM K S' H' := fun l p hp => (t l p hp).to hk hs
structure RpS (K : PySem.W.Frag) (mg : Str → Option Value) (H : Hp) (ρ : Nv) (σ : L2.St) : Prop where
  len : ρ.length = σ.length
  get : ∀ (i : Nat) (d : D), ρ[i]? = some (some d) → ∃ v, σ[i]? = some (some v) ∧ Rp K mg H d v
structure Tr (S : Sto) (H : Hp) (S' : Sto) (H' : Hp) : Prop where
  keep : ∀ a o, H a = some o → S a = none → (∀ ps, o ≠ .tbl ps) → H' a = some o
  tb : ∀ a ps, H a = some (.tbl ps) → S a = none → ∃ ps', H' a = some (.tbl ps')
  new : ∀ a, S a = none → S' a ≠ none → H a = none
section
variable {K : PySem.W.Frag} {mg : Str → Option Value} {S S' S1 S2 : Sto} {H H' H1 H2 : Hp}
theorem Tr.of (keep : ∀ a o, H a = some o → S a = none → H' a = some o) (new : ∀ a, S a = none → S' a ≠ none → H a = none) : Tr S H S' H' := ⟨fun a o h n _ => keep a o h n, fun a ps h n => ⟨ps, keep a _ h n⟩, new⟩
theorem Tr.there (t : Tr S H S' H') {a : Addr} {o : HO} (h : H a = some o) (n : S a = none) : ∃ o', H' a = some o' := by
  by_cases z : ∃ ps, o = .tbl ps
  · obtain ⟨ps, rfl⟩ := z
    obtain ⟨ps', e⟩ := t.tb a ps h n
    exact ⟨_, e⟩
  · exact ⟨o, t.keep a o h n fun ps e => z ⟨ps, e⟩⟩
theorem Tr.refl (S : Sto) (H : Hp) : Tr S H S H := Tr.of (fun _ _ h _ => h) fun _ h h' => absurd h h'
theorem Tr.stay (a : Tr S H S1 H1) {p : Addr} {o : HO} (h : H p = some o) (n : S p = none) : S1 p = none := by
  cases e : S1 p with
  | none => rfl
  | some c =>
    have z := a.new p n (by rw [e]; exact fun z => nomatch z)
    rw [h] at z; cases z
theorem Tr.trans (a : Tr S H S1 H1) (b : Tr S1 H1 S2 H2) : Tr S H S2 H2 := by
  refine ⟨fun p o h n t => b.keep p o (a.keep p o h n t) (a.stay h n) t, fun p ps h n => ?_, fun p n q => ?_⟩
  · obtain ⟨ps', e⟩ := a.tb p ps h n
    exact b.tb p ps' e (a.stay h n)
  · cases e : S1 p with
    | some c => exact a.new p n (by rw [e]; exact fun z => nomatch z)
    | none =>
      have z := b.new p e q
      cases e2 : H p with
      | none => rfl
      | some o =>
        obtain ⟨o', e3⟩ := a.there e2 n
        rw [e3] at z; cases z
theorem StO.free (s : StO K mg S H) {a : Addr} (h : H a = none) : S a = none := by
  cases e : S a with
  | none => rfl
  | some c =>
    obtain ⟨o, q, _⟩ := s a c e
    rw [h] at q; cases q
theorem StO.notup (s : StO K mg S H) {a : Addr} {xs : List V} (h : H a = some (.tup xs)) : S a = none := by
  cases e : S a with
  | none => rfl
  | some c =>
    obtain ⟨o, q, r⟩ := s a c e
    rw [h] at q; cases q
    cases r with
    | dK l _ => exact (l.no fun z => by cases z).elim
    | dT l _ => exact (l.no fun z => by cases z).elim
theorem StO.nofrz (s : StO K mg S H) {a : Addr} {xs : List V} {o : Obj} {c : Cell} (h : H a = some (.frz o (.lst xs))) (e : S a = some c) : False := by
  obtain ⟨o, q, r⟩ := s a c e
  rw [h] at q; cases q
  cases r with
  | dK l _ => exact l.noF (fun _ _ z => by cases z) (fun _ z => by cases z)
  | dT l _ => exact l.noF (fun _ _ z => by cases z) (fun _ z => by cases z)
theorem Tr.sqT (t : Tr S H S' H') (s : StO K mg S H) (a : Addr) (xs : List V) (h : TupA K H a xs) : TupA K H' a xs := t.keep _ _ h (s.notup h) (fun _ z => by cases z)
theorem Tr.kp (t : Tr S H S' H') (s : StO K mg S H) : Kp H H' := ⟨fun a xs h => t.keep _ _ h (s.notup h) (fun _ z => by cases z), fun a o xs h => by
  cases e : S a with
  | none => exact t.keep _ _ h e (fun _ z => by cases z)
  | some c => exact (s.nofrz h e).elim⟩
theorem Tr.rp (t : Tr S H S' H') (s : StO K mg S H) {d : D} {v : V} (r : Rp K mg H d v) : Rp K mg H' d v := r.mono (t.kp s)
theorem Tr.rpL (t : Tr S H S' H') (s : StO K mg S H) {d : List D} {v : List V} (r : RpL K mg H d v) : RpL K mg H' d v := r.mono (t.kp s)
theorem Tr.rpS (t : Tr S H S' H') (s : StO K mg S H) {ρ : Nv} {σ : L2.St} (r : RpS K mg H ρ σ) : RpS K mg H' ρ σ :=
  ⟨r.len, fun i d e => let ⟨v, h1, h2⟩ := r.get i d e; ⟨v, h1, t.rp s h2⟩⟩
theorem RpS.set {ρ : Nv} {σ : L2.St} (r : RpS K mg H ρ σ) {d : D} {v : V} (q : Rp K mg H d v) (i : Nat) : RpS K mg H (ρ.set i (some d)) (σ.set i (some v)) := by
  refine ⟨by rw [List.length_set, List.length_set]; exact r.len, fun j e h => ?_⟩
  by_cases hj : i = j
  · subst hj
    have hl : i < ρ.length := by
      have := (List.getElem?_eq_some_iff.mp h).1
      rwa [List.length_set] at this
    rw [List.getElem?_set_self hl] at h
    cases h
    exact ⟨v, List.getElem?_set_self (by rw [← r.len]; exact hl), q⟩
  · rw [List.getElem?_set_ne hj] at h
    rw [List.getElem?_set_ne hj]
    exact r.get j e h
theorem RpS.forget {ρ : Nv} {σ : L2.St} (r : RpS K mg H ρ σ) (i : Nat) : RpS K mg H (ρ.set i none) (σ.set i none) := by
  refine ⟨by rw [List.length_set, List.length_set]; exact r.len, fun j e h => ?_⟩
  by_cases hj : i = j
  · subst hj
    have hl : i < ρ.length := by
      have := (List.getElem?_eq_some_iff.mp h).1
      rwa [List.length_set] at this
    rw [List.getElem?_set_self hl] at h
    cases h
  · rw [List.getElem?_set_ne hj] at h
    rw [List.getElem?_set_ne hj]
    exact r.get j e h
theorem Tr.laidH {p : Addr} {o : HO} (h : H p = none) : Tr S H S (upd H p o) :=
  Tr.of (fun a u e _ => by rw [upd_ne (ne_of_none e h)]; exact e) fun _ h h' => absurd h h'
theorem Tr.laid {p : Addr} {o : HO} {c : Cell} (h : H p = none) : Tr S H (up1 S p c) (upd H p o) :=
  Tr.of (fun a u e _ => by rw [upd_ne (ne_of_none e h)]; exact e) fun a n q => by
    by_cases e : a = p
    · rw [e]; exact h
    · rw [up1_ne e] at q; exact absurd n q
theorem Tr.wrote {p : Addr} {o : HO} {c c' : Cell} (h : S p = some c') : Tr S H (up1 S p c) (upd H p o) :=
  Tr.of (fun a u e n => by
    have ne : a ≠ p := fun z => by rw [z, h] at n; cases n
    rw [upd_ne ne]; exact e) fun a n q => by
    have ne : a ≠ p := fun z => by rw [z, h] at n; cases n
    rw [up1_ne ne] at q; exact absurd n q
theorem RpC.mono {c : Cell} {o : HO} (k : Kp H H') (r : RpC K mg H c o) : RpC K mg H' c o := by
  cases r with
  | lst r => exact .lst (r.mono k)
  | dK l r => exact .dK l (r.mono k)
  | dT l r => exact .dT l (r.mono k)
  | rng => exact .rng
theorem StO.laidH {p : Addr} {o : HO} (s : StO K mg S H) (h : H p = none) : StO K mg S (upd H p o) := ⟨fun a c e => by
  obtain ⟨u, q, r⟩ := s a c e
  exact ⟨u, by rw [upd_ne (ne_of_none q h)]; exact q, r.mono ((Tr.laidH h).kp s)⟩, s.tab.to (fun a o e _ _ => by rw [upd_ne (ne_of_none e h)]; exact e) fun a n _ _ => n⟩
theorem StO.laid {p : Addr} {o : HO} {c : Cell} (s : StO K mg S H) (h : H p = none) (r : RpC K mg H c o) : StO K mg (up1 S p c) (upd H p o) := ⟨fun a u e => by
  have k := (Tr.laid (S := S) (o := o) (c := c) h).kp s
  by_cases z : a = p
  · subst z
    rw [up1_same] at e; cases e
    exact ⟨o, upd_same, r.mono k⟩
  · rw [up1_ne z] at e
    obtain ⟨v, q, r'⟩ := s a u e
    exact ⟨v, by rw [upd_ne z]; exact q, r'.mono k⟩, s.tab.to (fun a o e _ _ => by rw [upd_ne (ne_of_none e h)]; exact e) fun a n e _ => by rw [up1_ne (fun z => e (by rw [z]; exact h))]; exact n⟩
theorem StO.wrote {p : Addr} {o : HO} {c c' : Cell} (s : StO K mg S H) (h : S p = some c') (r : RpC K mg H c o) : StO K mg (up1 S p c) (upd H p o) := ⟨fun a u e => by
  have k := (Tr.wrote (H := H) (o := o) (c := c) h).kp s
  by_cases z : a = p
  · subst z
    rw [up1_same] at e; cases e
    exact ⟨o, upd_same, r.mono k⟩
  · rw [up1_ne z] at e
    obtain ⟨v, q, r'⟩ := s a u e
    exact ⟨v, by rw [upd_ne z]; exact q, r'.mono k⟩, s.tab.to (fun a o e n _ => by rw [upd_ne (fun z => by rw [z, h] at n; cases n)]; exact e) fun a n _ _ => by rw [up1_ne (fun z => by rw [z, h] at n; cases n)]; exact n⟩
def LA (S : Sto) (a : Addr) (ds : List D) : Prop := S a = some (.lst ds)
theorem StO.sqL {a : Addr} {ds : List D} (s : StO K mg S H) (h : LA S a ds) : ∃ xs, SqL K H a xs ∧ RpL K mg H ds xs := by
  obtain ⟨o, q, r⟩ := s a _ h
  cases r with
  | lst r => exact ⟨_, .inl (.inl q), r⟩
theorem StO.lst {a : Addr} {ds : List D} (s : StO K mg S H) (h : S a = some (.lst ds)) : ∃ xs, H a = some (.lst xs) ∧ RpL K mg H ds xs := by
  obtain ⟨o, q, r⟩ := s a _ h
  cases r with
  | lst r => exact ⟨_, q, r⟩
end
end DL
set_option Elab.async false
set_option linter.all false
set_option maxRecDepth 100000
set_option maxHeartbeats 4000000
namespace DL
open PySem PySem.Spec PyProof.Rows L2
abbrev DQ := D → Sto → Prop
abbrev DE := Nv → Sto → DQ → Prop
abbrev DT := Nv → Sto → (Bool → Sto → Prop) → Prop
abbrev DA := Nv → Sto → (List D → Sto → Prop) → Prop
structure Exc where
  cls : Str
  fs : List (Str × D)
abbrev EXn := Exc → Nv → Sto → Prop
def Kt (K : PySem.W.Frag) (mg : Str → Option Value) (S : Sto) (H : Hp) (P : DQ) (Q : VK) : Prop :=
  ∀ d S' v H', Tr S H S' H' → StO K mg S' H' → Rp K mg H' d v → P d S' → Q v H'
def KtL (K : PySem.W.Frag) (mg : Str → Option Value) (S : Sto) (H : Hp) (P : List D → Sto → Prop) (Q : List V → Hp → Prop) : Prop :=
  ∀ d S' v H', Tr S H S' H' → StO K mg S' H' → RpL K mg H' d v → P d S' → Q v H'
def KtB (K : PySem.W.Frag) (mg : Str → Option Value) (S : Sto) (H : Hp) (P : Bool → Sto → Prop) (Q : Bool → Hp → Prop) : Prop :=
  ∀ b S' H', Tr S H S' H' → StO K mg S' H' → P b S' → Q b H'
section
variable {K : PySem.W.Frag} {mg : Str → Option Value} {S S1 : Sto} {H H1 : Hp}
theorem Kt.at {P : DQ} {Q : VK} (k : Kt K mg S H P Q) (t : Tr S H S1 H1) : Kt K mg S1 H1 P Q := fun d S' v H' t' => k d S' v H' (t.trans t')
theorem KtL.at {P : List D → Sto → Prop} {Q : List V → Hp → Prop} (k : KtL K mg S H P Q) (t : Tr S H S1 H1) : KtL K mg S1 H1 P Q := fun d S' v H' t' => k d S' v H' (t.trans t')
theorem KtB.at {P : Bool → Sto → Prop} {Q : Bool → Hp → Prop} (k : KtB K mg S H P Q) (t : Tr S H S1 H1) : KtB K mg S1 H1 P Q := fun d S' H' t' => k d S' H' (t.trans t')
theorem Kt.now {P : DQ} {Q : VK} (k : Kt K mg S H P Q) (s : StO K mg S H) {d : D} {v : V} (r : Rp K mg H d v) (p : P d S) : Q v H := k d S v H (Tr.refl S H) s r p
theorem Kt.newL {P : DQ} {Q : VK} (k : Kt K mg S H P Q) (s : StO K mg S H) {ds : List D} {xs : List V} (r : RpL K mg H ds xs) (p : ∀ a, S a = none → P (.ref a) (up1 S a (.lst ds))) :
    ∀ a, H a = none → Q (.ref a) (upd H a (.lst xs)) := fun a h =>
  k _ _ _ _ (Tr.laid h) (s.laid h (.lst r)) (.ref a) (p a (s.free h))
theorem Kt.newT {P : DQ} {Q : VK} (k : Kt K mg S H P Q) (s : StO K mg S H) {ds : List D} {xs : List V} (r : RpL K mg H ds xs) (p : P (.tup ds) S) :
    ∀ a, H a = none → Q (.ref a) (upd H a (.tup xs)) := fun a h =>
  k _ _ _ _ (Tr.laidH h) (s.laidH h) (.tup upd_same (r.mono ((Tr.laidH h).kp s))) p
end
structure Zb where
  S : Sto
  H : Hp
def upE (K : PySem.W.Frag) (mg : Str → Option Value) (Z : Zb) (t : DE) : TE := fun σ H Q => ∃ ρ S P, RpS K mg H ρ σ ∧ StO K mg S H ∧ Tr Z.S Z.H S H ∧ t ρ S P ∧ Kt K mg S H P Q
def upT (K : PySem.W.Frag) (mg : Str → Option Value) (Z : Zb) (t : DT) : TT := fun σ H Q => ∃ ρ S P, RpS K mg H ρ σ ∧ StO K mg S H ∧ Tr Z.S Z.H S H ∧ t ρ S P ∧ KtB K mg S H P Q
def upA (K : PySem.W.Frag) (mg : Str → Option Value) (Z : Zb) (t : DA) : TA := fun σ H Q => ∃ ρ S P, RpS K mg H ρ σ ∧ StO K mg S H ∧ Tr Z.S Z.H S H ∧ t ρ S P ∧ KtL K mg S H P Q
def SE (X : Cx) (Z : Zb) (e : Expr) (t : DE) : Prop := PE X e (upE X.K X.mg Z t)
def ST (X : Cx) (Z : Zb) (e : Expr) (t : DT) : Prop := PT X e (upT X.K X.mg Z t)
def SW (X : Cx) (Z : Zb) (e : Expr) (t : DT) : Prop := PW X e (upT X.K X.mg Z t)
def SA (X : Cx) (Z : Zb) (es : List Expr) (t : DA) : Prop := PA X es (upA X.K X.mg Z t)
theorem peI {X : Cx} {e : Expr} {t t' : TE} (h : PE X e t) (i : ∀ σ H Q, t' σ H Q → t σ H Q) : PE X e t' := ⟨fun pins s σ H Q I q => h.run pins s σ H Q I (i σ H Q q)⟩
theorem ptI {X : Cx} {e : Expr} {t t' : TT} (h : PT X e t) (i : ∀ σ H Q, t' σ H Q → t σ H Q) : PT X e t' := ⟨fun pins s σ H Q I q => h.run pins s σ H Q I (i σ H Q q)⟩
theorem pwI {X : Cx} {e : Expr} {t t' : TT} (h : PW X e t) (i : ∀ σ H Q, t' σ H Q → t σ H Q) : PW X e t' := ⟨fun wh pins s σ H Q I q => h.run wh pins s σ H Q I (i σ H Q q)⟩
theorem paI {X : Cx} {e : List Expr} {t t' : TA} (h : PA X e t) (i : ∀ σ H Q, t' σ H Q → t σ H Q) : PA X e t' := ⟨fun pos pins s σ H Q I q => h.run pos pins s σ H Q I (i σ H Q q)⟩
section
variable {X : Cx} {Z : Zb} {a b c e : Expr} {es : List Expr} {ta tb tc te : DE} {pos : Pos}
theorem upE.go {σ : L2.St} {H : Hp} {ρ : Nv} {S : Sto} {P : DQ} {Q : VK} (r : RpS X.K X.mg H ρ σ) (s : StO X.K X.mg S H) (z : Tr Z.S Z.H S H) (h : ta ρ S P) (k : Kt X.K X.mg S H P Q) : upE X.K X.mg Z ta σ H Q := ⟨ρ, S, P, r, s, z, h, k⟩
def dC (d : D) : DE := fun _ S Q => Q d S
theorem s_int {i j} : SE X Z (.Constant (.int i) j pos) (dC (.int i)) := peI pe_int fun _ _ _ ⟨_, _, _, _, s, _, h, k⟩ => k.now s (.int i) h
theorem s_bl {i j} : SE X Z (.Constant (.bool i) j pos) (dC (.bl i)) := peI pe_bl fun _ _ _ ⟨_, _, _, _, s, _, h, k⟩ => k.now s (.bl i) h
theorem s_non {j} : SE X Z (.Constant .none j pos) (dC .non) := peI pe_non fun _ _ _ ⟨_, _, _, _, s, _, h, k⟩ => k.now s .non h
theorem s_str {i j} : SE X Z (.Constant (.str i) j pos) (dC (.str i)) := peI pe_str fun _ _ _ ⟨_, _, _, _, s, _, h, k⟩ => k.now s (.str i) h
def dVar (i : Nat) : DE := fun ρ S Q => ∃ d, ρ[i]? = some (some d) ∧ Q d S
theorem s_var {i : Nat} {x : Str} (hN : X.N[i]? = some x) (hv : Vis X.env.scope x) (h1 : (x == ("__debug__" : Str)) = false) (h2 : (x == ("__classdict__" : Str)) = false) : SE X Z (.Name x pos) (dVar i) :=
  peI (pe_var hN hv h1 h2) fun _ _ _ ⟨_, _, _, r, s, _, ⟨d, e, h⟩, k⟩ => by
    obtain ⟨v, hv, rv⟩ := r.get i d e
    exact ⟨v, hv, k.now s rv h⟩
def dNil : DA := fun _ S Q => Q [] S
def dCons (t : DE) (u : DA) : DA := fun ρ S Q => t ρ S fun d S1 => u ρ S1 fun ds S2 => Q (d :: ds) S2
theorem s_nil : SA X Z [] dNil := paI pa_nil fun _ H _ ⟨_, S, _, _, s, _, h, k⟩ => k [] S [] H (Tr.refl _ _) s .nil h
theorem s_cons {t : DA} (he : SE X Z e te) (hr : SA X Z es t) (hs : starEach (e :: es) X.env = (false, eval e X.env) :: starEach es X.env) : SA X Z (e :: es) (dCons te t) := by
  refine paI (pa_cons he hr hs) fun σ H Q ⟨ρ, S, P, r, s, z, h, k⟩ => ?_
  refine ⟨ρ, S, _, r, s, z, h, fun d S1 v H1 t1 s1 rd h1 => ?_⟩
  refine ⟨ρ, S1, _, t1.rpS s r, s1, z.trans t1, h1, fun ds S2 vs H2 t2 s2 rds h2 => ?_⟩
  exact k _ _ _ _ (t1.trans t2) s2 (.cons (t2.rp s1 rd) rds) h2
def dTup (t : DA) : DE := fun ρ S Q => t ρ S fun ds S1 => ds.length ≤ sizeLine ∧ Q (.tup ds) S1
def dLst (t : DA) : DE := fun ρ S Q => t ρ S fun ds S1 => ds.length ≤ sizeLine ∧ ∀ p, S1 p = none → Q (.ref p) (up1 S1 p (.lst ds))
theorem s_tup {t : DA} {x1} (h : SA X Z es t) : SE X Z (.Tuple es x1 pos) (dTup t) := by
  refine peI (pe_tup h) fun σ H Q ⟨ρ, S, P, r, s, z, h, k⟩ => ?_
  refine ⟨ρ, S, _, r, s, z, h, fun ds S1 vs H1 t1 s1 rds ⟨hl, h1⟩ => ⟨by rw [← rds.length]; exact hl, ?_⟩⟩
  exact (k.at t1).newT s1 rds h1
theorem s_lst {t : DA} (h : SA X Z es t) : SE X Z (.List es pos) (dLst t) := by
  refine peI (pe_lst h) fun σ H Q ⟨ρ, S, P, r, s, z, h, k⟩ => ?_
  refine ⟨ρ, S, _, r, s, z, h, fun ds S1 vs H1 t1 s1 rds ⟨hl, h1⟩ => ⟨by rw [← rds.length]; exact hl, ?_⟩⟩
  exact (k.at t1).newL s1 rds h1
abbrev D2 := D → D → Sto → DQ → Prop
def Op2 (K : PySem.W.Frag) (mg : Str → Option Value) (r : R2) (o : D2) : Prop :=
  ∀ S H x y v u P Q, StO K mg S H → Rp K mg H x v → Rp K mg H y u → o x y S P → Kt K mg S H P Q → r v u H Q
def dOp (o : D2) (ta tb : DE) : DE := fun ρ S Q => ta ρ S fun x S1 => tb ρ S1 fun y S2 => o x y S2 Q
theorem up_op {r : R2} {o : D2} (ho : Op2 X.K X.mg r o) : ∀ σ H Q, upE X.K X.mg Z (dOp o ta tb) σ H Q → tOp r (upE X.K X.mg Z ta) (upE X.K X.mg Z tb) σ H Q := by
  rintro σ H Q ⟨ρ, S, P, rr, s, z, h, k⟩
  refine ⟨ρ, S, _, rr, s, z, h, fun x S1 v H1 t1 s1 rx h1 => ?_⟩
  refine ⟨ρ, S1, _, t1.rpS s rr, s1, z.trans t1, h1, fun y S2 u H2 t2 s2 ry h2 => ?_⟩
  exact ho S2 H2 x y v u P Q s2 (t2.rp s1 rx) ry h2 (k.at (t1.trans t2))
theorem s_op {op : Operator} {r : R2} {o : D2} (h : OpR X (binaryOp op) r) (ho : Op2 X.K X.mg r o) (ha : SE X Z a ta) (hb : SE X Z b tb) : SE X Z (.BinOp a op b pos) (dOp o ta tb) :=
  peI (pe_op h ha hb) (up_op ho)
theorem s_cmp {op : CmpOp} {r : R2} {o : D2} (h : OpR X (compareOp op) r) (ho : Op2 X.K X.mg r o) (ha : SE X Z a ta) (hb : SE X Z b tb) (hm : behindInMarks op b = false) : SE X Z (.Compare a [op] [b] pos) (dOp o ta tb) :=
  peI (pe_cmpR h ha hb hm) (up_op ho)
def dB (t : DE) : DT := fun ρ S Q => t ρ S fun x S1 => ∃ k, x = .bl k ∧ Q k S1
theorem up_test {t : TE} (hh : ∀ σ H Q, upE X.K X.mg Z te σ H Q → t σ H Q) : ∀ σ H Q, upT X.K X.mg Z (dB te) σ H Q → tTest t σ H Q := by
  rintro σ H Q ⟨ρ, S, P, rr, s, z, h, k⟩
  refine hh _ _ _ ⟨ρ, S, _, rr, s, z, h, fun x S1 v H1 t1 s1 rx h1 => ?_⟩
  obtain ⟨b, rfl, h1⟩ := h1
  cases rx
  exact ⟨b, rfl, k _ _ _ t1 s1 h1⟩
theorem s_cmpT {op : CmpOp} {r : R2} {o : D2} (h : OpR X (compareOp op) r) (ho : Op2 X.K X.mg r o) (ha : SE X Z a ta) (hb : SE X Z b tb) (hm : behindInMarks op b = false) : ST X Z (.Compare a [op] [b] pos) (dB (dOp o ta tb)) :=
  ptI (pt_cmpR h ha hb hm) (up_test (up_op ho))
def dChain (o o' : D2) (ta tb tc : DE) : DE := fun ρ S Q => ta ρ S fun x S1 => tb ρ S1 fun y S2 => o x y S2 fun z S3 => ∃ k, z = .bl k ∧ if k = true then tc ρ S3 fun w S4 => o' y w S4 Q else Q (.bl false) S3
theorem up_chain {r r' : R2} {o o' : D2} (ho : Op2 X.K X.mg r o) (ho' : Op2 X.K X.mg r' o') : ∀ σ H Q, upE X.K X.mg Z (dChain o o' ta tb tc) σ H Q → tChain r r' (upE X.K X.mg Z ta) (upE X.K X.mg Z tb) (upE X.K X.mg Z tc) σ H Q := by
  rintro σ H Q ⟨ρ, S, P, rr, s, z, h, k⟩
  refine ⟨ρ, S, _, rr, s, z, h, fun x S1 v H1 t1 s1 rx h1 => ?_⟩
  refine ⟨ρ, S1, _, t1.rpS s rr, s1, z.trans t1, h1, fun y S2 u H2 t2 s2 ry h2 => ?_⟩
  refine ho S2 H2 x y v u _ _ s2 (t2.rp s1 rx) ry h2 fun d S3 w H3 t3 s3 rd h3 => ?_
  obtain ⟨c, rfl, h3⟩ := h3
  cases rd
  refine ⟨c, rfl, ?_⟩
  have t13 := (t1.trans t2).trans t3
  cases c with
  | false =>
    rw [if_neg Bool.false_ne_true] at h3 ⊢
    exact (k.at t13).now s3 (.bl false) h3
  | true =>
    rw [if_pos rfl] at h3 ⊢
    refine ⟨ρ, S3, _, t13.rpS s rr, s3, z.trans t13, h3, fun w2 S4 v4 H4 t4 s4 r4 h4 => ?_⟩
    exact ho' S4 H4 y w2 u v4 P Q s4 (t4.rp s3 (t3.rp s2 ry)) r4 h4 (k.at (t13.trans t4))
theorem s_chainT {op op' : CmpOp} {r r' : R2} {o o' : D2} (h : OpR X (compareOp op) r) (h' : OpR X (compareOp op') r') (ho : Op2 X.K X.mg r o) (ho' : Op2 X.K X.mg r' o') (ha : SE X Z a ta) (hb : SE X Z b tb) (hc : SE X Z c tc) (hm : lastMarks [op, op'] [b, c] = false) :
    ST X Z (.Compare a [op, op'] [b, c] pos) (dB (dChain o o' ta tb tc)) := ptI (pt_chain h h' ha hb hc hm) (up_test (up_chain ho ho'))
def truD : D → Sto → (Bool → Sto → Prop) → Prop
  | .non, S, Q => Q false S
  | .bl b, S, Q => Q b S
  | .int i, S, Q => Q (i != 0) S
  | .str y, S, Q => y.length ≤ sizeLine ∧ Q ((y.length : Int) != 0) S
  | .tup xs, S, Q => Q (!xs.isEmpty) S
  | .ref a, S, Q => ∃ xs, LA S a xs ∧ Q (!xs.isEmpty) S
  | .fn _, _, _ => False
  | .ty _, _, _ => False
  | .lw _, _, _ => False
theorem RpL.emp {K : PySem.W.Frag} {mg : Str → Option Value} {H : Hp} {ds : List D} {xs : List V} (r : RpL K mg H ds xs) : xs.isEmpty = ds.isEmpty := by
  cases r <;> rfl
theorem truV_of {K : PySem.W.Frag} {mg : Str → Option Value} {S : Sto} {H : Hp} {d : D} {v : V} {P : Bool → Sto → Prop} (s : StO K mg S H) (r : Rp K mg H d v) (h : truD d S P) : ∃ k, TruV K v H k ∧ P k S := by
  cases r with
  | non => exact ⟨_, rfl, h⟩
  | bl b => exact ⟨_, rfl, h⟩
  | int i => exact ⟨_, rfl, h⟩
  | str x => exact ⟨_, ⟨h.1, rfl⟩, h.2⟩
  | ref a =>
    obtain ⟨xs, l, h⟩ := h
    obtain ⟨vs, sq, rl⟩ := s.sqL l
    exact ⟨_, .inl ⟨vs, sq, rfl⟩, by rw [rl.emp]; exact h⟩
  | fn e => exact h.elim
  | ty n => exact h.elim
  | lw _ _ => exact h.elim
  | tup sq rl => exact ⟨_, .inr (.inl ⟨_, sq.sq, rfl⟩), by rw [rl.emp]; exact h⟩
def dTru (ta : DE) : DT := fun ρ S Q => ta ρ S fun x S1 => truD x S1 Q
theorem s_truth (ha : SE X Z a ta) (he : ∀ whole, isTrue a X.env whole = (do let v ← whole; standAt a.pos; holding [v] (truthy v))) : ST X Z a (dTru ta) := by
  refine ptI (pt_truth ha he) fun σ H Q ⟨ρ, S, P, r, s, z, h, k⟩ => ?_
  refine ⟨ρ, S, _, r, s, z, h, fun x S1 v H1 t1 s1 rx h1 => ?_⟩
  obtain ⟨b, tv, p⟩ := truV_of s1 rx h1
  exact ⟨b, tv, k _ _ _ t1 s1 p⟩
variable {tA tB tC : DT} {rest : List Expr}
def dAndT (t u : DT) : DT := fun ρ S Q => t ρ S fun c S1 => if c = true then u ρ S1 Q else Q false S1
def dOrT (t u : DT) : DT := fun ρ S Q => t ρ S fun c S1 => if c = true then Q true S1 else u ρ S1 Q
def dNotT (t : DT) : DT := fun ρ S Q => t ρ S fun c S1 => Q (!c) S1
theorem s_and1 (ha : ST X Z a tA) : SW X Z (.BoolOp .And [a] pos) tA := pw_and1 ha
theorem s_or1 (ha : ST X Z a tA) : SW X Z (.BoolOp .Or [a] pos) tA := pw_or1 ha
theorem s_andT (ha : ST X Z a tA) (hb : SW X Z (.BoolOp .And (b :: rest) pos) tB) : SW X Z (.BoolOp .And (a :: b :: rest) pos) (dAndT tA tB) := by
  refine pwI (pw_and ha hb) fun σ H Q ⟨ρ, S, P, r, s, z, h, k⟩ => ?_
  refine ⟨ρ, S, _, r, s, z, h, fun c S1 H1 t1 s1 h1 => ?_⟩
  cases c with
  | true => exact ⟨ρ, S1, _, t1.rpS s r, s1, z.trans t1, h1, k.at t1⟩
  | false => exact k _ _ _ t1 s1 h1
theorem s_orT (ha : ST X Z a tA) (hb : SW X Z (.BoolOp .Or (b :: rest) pos) tB) : SW X Z (.BoolOp .Or (a :: b :: rest) pos) (dOrT tA tB) := by
  refine pwI (pw_or ha hb) fun σ H Q ⟨ρ, S, P, r, s, z, h, k⟩ => ?_
  refine ⟨ρ, S, _, r, s, z, h, fun c S1 H1 t1 s1 h1 => ?_⟩
  cases c with
  | true => exact k _ _ _ t1 s1 h1
  | false => exact ⟨ρ, S1, _, t1.rpS s r, s1, z.trans t1, h1, k.at t1⟩
theorem s_wt (h : SW X Z a tA) : ST X Z a tA := h.pt
theorem s_notT (ha : ST X Z a tA) : ST X Z (.UnaryOp .Not a pos) (dNotT tA) := by
  refine ptI (pt_not ha) fun σ H Q ⟨ρ, S, P, r, s, z, h, k⟩ => ?_
  exact ⟨ρ, S, _, r, s, z, h, fun c S1 H1 t1 s1 h1 => k _ _ _ t1 s1 h1⟩
def dAndV (ta tb : DE) : DE := fun ρ S Q => ta ρ S fun x S1 => truD x S1 fun c S2 => if c = true then tb ρ S2 Q else Q x S2
def dOrV (ta tb : DE) : DE := fun ρ S Q => ta ρ S fun x S1 => truD x S1 fun c S2 => if c = true then Q x S2 else tb ρ S2 Q
def dNotV (ta : DE) : DE := fun ρ S Q => ta ρ S fun x S1 => truD x S1 fun c S2 => Q (.bl (!c)) S2
theorem s_one {op} (h : SE X Z a ta) : SE X Z (.BoolOp op [a] pos) ta := pe_one h
theorem s_and (ha : SE X Z a ta) (hb : SE X Z (.BoolOp .And (b :: rest) pos) tb) : SE X Z (.BoolOp .And (a :: b :: rest) pos) (dAndV ta tb) := by
  refine peI (pe_andT ha hb) fun σ H Q ⟨ρ, S, P, r, s, z, h, k⟩ => ?_
  refine ⟨ρ, S, _, r, s, z, h, fun x S1 v H1 t1 s1 rx h1 => ?_⟩
  obtain ⟨c, tv, h1⟩ := truV_of s1 rx h1
  refine ⟨c, tv, ?_⟩
  cases c with
  | true => exact ⟨ρ, S1, _, t1.rpS s r, s1, z.trans t1, h1, k.at t1⟩
  | false => exact k _ _ _ _ t1 s1 rx h1
theorem s_not (ha : SE X Z a ta) : SE X Z (.UnaryOp .Not a pos) (dNotV ta) := by
  refine peI (pe_notT ha) fun σ H Q ⟨ρ, S, P, r, s, z, h, k⟩ => ?_
  refine ⟨ρ, S, _, r, s, z, h, fun x S1 v H1 t1 s1 rx h1 => ?_⟩
  obtain ⟨c, tv, h1⟩ := truV_of s1 rx h1
  exact ⟨c, tv, k _ _ _ _ t1 s1 (.bl _) h1⟩
def dIf (t : DT) (ta tb : DE) : DE := fun ρ S Q => t ρ S fun c S1 => if c = true then ta ρ S1 Q else tb ρ S1 Q
theorem s_ifExp (hc : ST X Z c tA) (ha : SE X Z a ta) (hb : SE X Z b tb) : SE X Z (.IfExp c a b pos) (dIf tA ta tb) := by
  refine peI (pe_ifExp hc ha hb) fun σ H Q ⟨ρ, S, P, r, s, z, h, k⟩ => ?_
  refine ⟨ρ, S, _, r, s, z, h, fun c S1 H1 t1 s1 h1 => ?_⟩
  cases c with
  | true => exact ⟨ρ, S1, _, t1.rpS s r, s1, z.trans t1, h1, k.at t1⟩
  | false => exact ⟨ρ, S1, _, t1.rpS s r, s1, z.trans t1, h1, k.at t1⟩
abbrev D1 := D → Sto → DQ → Prop
def Op1 (K : PySem.W.Frag) (mg : Str → Option Value) (r : V → Hp → VK → Prop) (o : D1) : Prop :=
  ∀ S H x v P Q, StO K mg S H → Rp K mg H x v → o x S P → Kt K mg S H P Q → r v H Q
def dUn (o : D1) (ta : DE) : DE := fun ρ S Q => ta ρ S fun x S1 => o x S1 Q
theorem s_un {op : UnaryOp} {r : V → Hp → VK → Prop} {o : D1} (h : UnR X (unaryOp op) r) (ho : Op1 X.K X.mg r o) (ha : SE X Z a ta) : SE X Z (.UnaryOp op a pos) (dUn o ta) := by
  refine peI (pe_un h ha) fun σ H Q ⟨ρ, S, P, r, s, z, h, k⟩ => ?_
  exact ⟨ρ, S, _, r, s, z, h, fun x S1 v H1 t1 s1 rx h1 => ho S1 H1 x v P Q s1 rx h1 (k.at t1)⟩
abbrev DN := List D → Sto → DQ → Prop
def OpN (K : PySem.W.Frag) (mg : Str → Option Value) (r : List V → Hp → VK → Prop) (o : DN) : Prop :=
  ∀ S H xs vs P Q, StO K mg S H → RpL K mg H xs vs → o xs S P → Kt K mg S H P Q → r vs H Q
def dCall (o : DN) (t : DA) : DE := fun ρ S Q => t ρ S fun xs S1 => o xs S1 Q
theorem s_callB {x : Str} {id : String} {r : List V → Hp → VK → Prop} {o : DN} {t : DA} {p : Pos} (hc : CallR X (.builtin id) r) (ho : OpN X.K X.mg r o) (hg : Gl X x) (hm : X.mg x = none) (hv : bootBuiltins x = some (.builtin id)) (ha : SA X Z (e :: es) t) (hn : x ≠ "__name__") (hdb : (x == ("__debug__" : Str)) = false)
    (he : starEach (e :: es) X.env = (false, eval e X.env) :: starEach es X.env) (hpl : (backTo pos (starEach es X.env)).any (·.1) = false) : SE X Z (.Call (.Name x p) (e :: es) [] pos) (dCall o t) := by
  refine peI (pe_callB hc hg hm hv ha hn hdb he hpl) fun σ H Q ⟨ρ, S, P, r, s, z, h, k⟩ => ?_
  exact ⟨ρ, S, _, r, s, z, h, fun xs S1 vs H1 t1 s1 rx h1 => ho S1 H1 xs vs P Q s1 rx h1 (k.at t1)⟩
theorem s_callTy {x : Str} {T : String} {r : List V → Hp → VK → Prop} {o : DN} {t : DA} {p : Pos} (hc : CallR X (.type T) r) (ho : OpN X.K X.mg r o) (hg : Gl X x) (hm : X.mg x = none) (hv : bootBuiltins x = some (.type T)) (ha : SA X Z (e :: es) t) (hn : x ≠ "__name__") (hdb : (x == ("__debug__" : Str)) = false)
    (he : starEach (e :: es) X.env = (false, eval e X.env) :: starEach es X.env) (hpl : (backTo pos (starEach es X.env)).any (·.1) = false) : SE X Z (.Call (.Name x p) (e :: es) [] pos) (dCall o t) := by
  refine peI (pe_callTy hc hg hm hv ha hn hdb he hpl) fun σ H Q ⟨ρ, S, P, r, s, z, h, k⟩ => ?_
  exact ⟨ρ, S, _, r, s, z, h, fun xs S1 vs H1 t1 s1 rx h1 => ho S1 H1 xs vs P Q s1 rx h1 (k.at t1)⟩
theorem s_ix {r : R2} {o : D2} (h : IxR X r) (ho : Op2 X.K X.mg r o) (ha : SE X Z a ta) (hb : SE X Z b tb) (hs : PlainIx b) : SE X Z (.Subscript a b pos) (dOp o ta tb) :=
  peI (pe_ix h ha hb hs) (up_op ho)
abbrev DO := Nv → Sto → (Option Int → Sto → Prop) → Prop
def upO (K : PySem.W.Frag) (mg : Str → Option Value) (Z : Zb) (t : DO) : TO := fun σ H Q => ∃ ρ S P, RpS K mg H ρ σ ∧ StO K mg S H ∧ Tr Z.S Z.H S H ∧ t ρ S P ∧ ∀ o S' H', Tr S H S' H' → StO K mg S' H' → P o S' → Q o H'
def SO (X : Cx) (Z : Zb) (e : Option Expr) (t : DO) : Prop := PO X e (upO X.K X.mg Z t)
theorem poI {e : Option Expr} {t t' : TO} (h : PO X e t) (i : ∀ σ H Q, t' σ H Q → t σ H Q) : PO X e t' := by
  obtain ⟨h⟩ := h
  exact ⟨fun pins s σ H Q I q => h pins s σ H Q I (i σ H Q q)⟩
def dNoPart : DO := fun _ S Q => Q none S
def dPart (t : DE) : DO := fun ρ S Q => t ρ S fun x S1 => ∃ i, x = .int i ∧ Q (some i) S1
theorem s_noPart : SO X Z none dNoPart := poI po_none fun σ H Q ⟨ρ, S, P, r, s, z, h, k⟩ => k _ _ _ (Tr.refl _ _) s h
theorem s_part (he : SE X Z e te) : SO X Z (some e) (dPart te) := poI (po_some he) fun σ H Q ⟨ρ, S, P, r, s, z, h, k⟩ =>
  ⟨ρ, S, _, r, s, z, h, fun x S1 v H1 t1 s1 rx ⟨i, ex, h1⟩ => by subst ex; cases rx; exact ⟨i, rfl, k _ _ _ t1 s1 h1⟩⟩
abbrev DSl := D → Option Int → Option Int → Sto → DQ → Prop
def OpSl (K : PySem.W.Frag) (mg : Str → Option Value) (r : V → Option Int → Option Int → Hp → VK → Prop) (o : DSl) : Prop :=
  ∀ S H x v lo hi P Q, StO K mg S H → Rp K mg H x v → o x lo hi S P → Kt K mg S H P Q → r v lo hi H Q
def dSl (o : DSl) (te : DE) (tl th : DO) : DE := fun ρ S Q => te ρ S fun x S1 => tl ρ S1 fun l S2 => th ρ S2 fun u S3 => o x l u S3 Q
theorem s_slice {r : V → Option Int → Option Int → Hp → VK → Prop} {o : DSl} {lo hi : Option Expr} {tl th : DO} {p2 : Pos} (hr : SlR X r) (ho : OpSl X.K X.mg r o) (he : SE X Z e te) (hl : SO X Z lo tl) (hu : SO X Z hi th) :
    SE X Z (.Subscript e (.Slice lo hi none p2) pos) (dSl o te tl th) := by
  refine peI (pe_slice hr he hl hu) fun σ H Q ⟨ρ, S, P, r, s, z, h, k⟩ => ?_
  refine ⟨ρ, S, _, r, s, z, h, fun x S1 v H1 t1 s1 rx h1 => ?_⟩
  refine ⟨ρ, S1, _, t1.rpS s r, s1, z.trans t1, h1, fun l S2 H2 t2 s2 h2 => ?_⟩
  refine ⟨ρ, S2, _, (t1.trans t2).rpS s r, s2, z.trans (t1.trans t2), h2, fun u S3 H3 t3 s3 h3 => ?_⟩
  exact ho S3 H3 x v l u P Q s3 ((t2.trans t3).rp s1 rx) h3 (k.at ((t1.trans t2).trans t3))
abbrev DM := D → List D → Sto → DQ → Prop
def OpM (K : PySem.W.Frag) (mg : Str → Option Value) (r : V → List V → Hp → VK → Prop) (o : DM) : Prop :=
  ∀ S H x xs v vs P Q, StO K mg S H → Rp K mg H x v → RpL K mg H xs vs → o x xs S P → Kt K mg S H P Q → r v vs H Q
def tyD (T : String) (x : D) (S : Sto) : Prop := match x with
  | .str _ => T = "str"
  | .ref a => T = "list" ∧ ∃ ds, LA S a ds
  | .tup _ => T = "tuple"
  | _ => False
def dBM (T : String) (o : DM) (to : DE) (t : DA) : DE := fun ρ S Q => to ρ S fun x S1 => tyD T x S1 ∧ t ρ S1 fun xs S2 => o x xs S2 Q
end
end DL
set_option Elab.async false
set_option linter.all false
set_option maxRecDepth 100000
set_option maxHeartbeats 4000000
namespace DL
open PySem PySem.Spec PyProof.Rows L2
section
variable {X : Cx} {Z : Zb} {a b c e o : Expr} {es : List Expr} {ta tb tc te to : DE} {pos apos cpos : Pos} {name : Str} {T id : String}
theorem tyV_of {K : PySem.W.Frag} {mg : Str → Option Value} {S : Sto} {H : Hp} {d : D} {v : V} (s : StO K mg S H) (r : Rp K mg H d v) (h : tyD T d S) (ht : T ≠ "tuple") : tyV K T v H := by
  cases r with
  | str x => exact h
  | ref a =>
    obtain ⟨h1, ds, l⟩ := h
    obtain ⟨xs, sq, _⟩ := s.sqL l
    exact .inl ⟨h1, xs, sq⟩
  | tup _ _ => exact absurd h ht
  | non => exact h.elim
  | bl _ => exact h.elim
  | int _ => exact h.elim
  | fn _ => exact h.elim
  | ty _ => exact h.elim
  | lw _ _ => exact h.elim
theorem s_bm {r : V → List V → Hp → VK → Prop} {o' : DM} {t : DA} (pa : PlainAttrs T) (slot : Slot T name id) (hty : typeOf (.builtin id) = pure (.type "method_descriptor")) (hm : MtR X id r) (ho : OpM X.K X.mg r o') (hT : T ≠ "tuple") (hv : SE X Z o to) (ha : SA X Z (e :: es) t)
    (hbase : attributeBase o name X.env (eval o X.env) = eval o X.env)
    (hfew : ((backTo cpos (starEach (e :: es) X.env)).all (fun x => !x.1) && (backToKw cpos (keywordEach [] X.env)).all (fun x => x.1.isSome)
      && decide ((e :: es).length + ([] : List Keyword).length + (if ([] : List Keyword).isEmpty then 0 else 1) < 30)) = true)
    (hline : (apos.endLine == cpos.line) = true) (hs : starEach (e :: es) X.env = (false, eval e X.env) :: starEach es X.env) (hplain : (backTo cpos (starEach es X.env)).any (·.1) = false) :
    SE X Z (.Call (.Attribute o name apos) (e :: es) [] cpos) (dBM T o' to t) := by
  refine peI (pe_bm pa slot hty hm hv ha hbase hfew hline hs hplain) fun σ H Q ⟨ρ, S, P, r, s, z, h, k⟩ => ?_
  refine ⟨ρ, S, _, r, s, z, h, fun x S1 v H1 t1 s1 rx ⟨ty, h1⟩ => ⟨tyV_of s1 rx ty hT, ?_⟩⟩
  refine ⟨ρ, S1, _, t1.rpS s r, s1, z.trans t1, h1, fun xs S2 vs H2 t2 s2 rxs h2 => ?_⟩
  exact ho S2 H2 x xs v vs P Q s2 (t2.rp s1 rx) rxs h2 (k.at (t1.trans t2))
def dBM0 (T : String) (o : DM) (to : DE) : DE := fun ρ S Q => to ρ S fun x S1 => tyD T x S1 ∧ o x [] S1 Q
end
structure DEnds where
  nx : Nv → Sto → Prop
  rt : DQ
  bk : Nv → Sto → Prop := fun _ _ => False
  ct : Nv → Sto → Prop := fun _ _ => False
abbrev DS := DEnds → Nv → Sto → Prop
abbrev DG := D → Nv → Sto → (Nv → Sto → Prop) → Prop
abbrev DGs := List D → Nv → Sto → (Nv → Sto → Prop) → Prop
def KtP (K : PySem.W.Frag) (mg : Str → Option Value) (S : Sto) (H : Hp) (P : Nv → Sto → Prop) (Q : L2.St → Hp → Prop) : Prop :=
  ∀ ρ' S' σ' H', Tr S H S' H' → StO K mg S' H' → RpS K mg H' ρ' σ' → P ρ' S' → Q σ' H'
structure KtS (K : PySem.W.Frag) (mg : Str → Option Value) (S : Sto) (H : Hp) (D : DEnds) (T : Ends) : Prop where
  nx : KtP K mg S H D.nx T.nx
  rt : Kt K mg S H D.rt T.rt
  bk : KtP K mg S H D.bk T.bk
  ct : KtP K mg S H D.ct T.ct
section
variable {K : PySem.W.Frag} {mg : Str → Option Value} {S S1 : Sto} {H H1 : Hp}
theorem KtP.at {P : Nv → Sto → Prop} {Q : L2.St → Hp → Prop} (k : KtP K mg S H P Q) (t : Tr S H S1 H1) : KtP K mg S1 H1 P Q := fun ρ' S' σ' H' t' => k ρ' S' σ' H' (t.trans t')
theorem KtS.at {D : DEnds} {T : Ends} (k : KtS K mg S H D T) (t : Tr S H S1 H1) : KtS K mg S1 H1 D T := ⟨k.nx.at t, k.rt.at t, k.bk.at t, k.ct.at t⟩
end
def upS (K : PySem.W.Frag) (mg : Str → Option Value) (Z : Zb) (t : DS) : TS := fun T σ H => ∃ ρ S D, RpS K mg H ρ σ ∧ StO K mg S H ∧ Tr Z.S Z.H S H ∧ t D ρ S ∧ KtS K mg S H D T
def Out (vs : List Nat) (σ σ' : L2.St) : Prop := σ'.length = σ.length ∧ ∀ j, j ∉ vs → σ'[j]? = σ[j]?
theorem Out.refl (vs : List Nat) (σ : L2.St) : Out vs σ σ := ⟨rfl, fun _ _ => rfl⟩
theorem Out.trans {vs : List Nat} {σ σ1 σ2 : L2.St} (a : Out vs σ σ1) (b : Out vs σ1 σ2) : Out vs σ σ2 := ⟨b.1.trans a.1, fun j h => (b.2 j h).trans (a.2 j h)⟩
def upG (K : PySem.W.Frag) (mg : Str → Option Value) (Z : Zb) (vs : List Nat) (g : DG) : TG := fun v σ H Q => ∃ d ρ S P, Rp K mg H d v ∧ RpS K mg H ρ σ ∧ StO K mg S H ∧ Tr Z.S Z.H S H ∧ g d ρ S P ∧
  ∀ ρ' S' σ' H', Tr S H S' H' → StO K mg S' H' → RpS K mg H' ρ' σ' → Out vs σ σ' → P ρ' S' → Q σ' H'
def upGs (K : PySem.W.Frag) (mg : Str → Option Value) (Z : Zb) (vs : List Nat) (g : DGs) : TGs := fun v σ H Q => ∃ d ρ S P, RpL K mg H d v ∧ RpS K mg H ρ σ ∧ StO K mg S H ∧ Tr Z.S Z.H S H ∧ g d ρ S P ∧
  ∀ ρ' S' σ' H', Tr S H S' H' → StO K mg S' H' → RpS K mg H' ρ' σ' → Out vs σ σ' → P ρ' S' → Q σ' H'
def SS (X : Cx) (Z : Zb) (st : Stmt) (t : DS) : Prop := PS X st (upS X.K X.mg Z t)
def SSs (X : Cx) (Z : Zb) (st : List Stmt) (t : DS) : Prop := PSs X st (upS X.K X.mg Z t)
def SG (X : Cx) (Z : Zb) (vs : List Nat) (tg : Expr) (g : DG) : Prop := PG X tg (upG X.K X.mg Z vs g)
def SGs (X : Cx) (Z : Zb) (vs : List Nat) (tg : List Expr) (g : DGs) : Prop := PGs X tg (upGs X.K X.mg Z vs g)
theorem psI {X : Cx} {st : Stmt} {t t' : TS} (h : PS X st t) (i : ∀ D σ H, t' D σ H → t D σ H) : PS X st t' := ⟨fun pins s σ H D I q => h.run pins s σ H D I (i D σ H q)⟩
theorem pssI {X : Cx} {st : List Stmt} {t t' : TS} (h : PSs X st t) (i : ∀ D σ H, t' D σ H → t D σ H) : PSs X st t' := ⟨fun pins s σ H D I q => h.run pins s σ H D I (i D σ H q)⟩
theorem pgI {X : Cx} {tg : Expr} {t t' : TG} (h : PG X tg t) (i : ∀ v σ H Q, t' v σ H Q → t v σ H Q) : PG X tg t' := ⟨fun pins s σ H v u Q I r q => h.run pins s σ H v u Q I r (i v σ H Q q)⟩
theorem pgsI {X : Cx} {tg : List Expr} {t t' : TGs} (h : PGs X tg t) (i : ∀ v σ H Q, t' v σ H Q → t v σ H Q) : PGs X tg t' := ⟨fun pins s σ H v u Q I r q => h.run pins s σ H v u Q I r (i v σ H Q q)⟩
section
variable {X : Cx} {Z : Zb} {a b c e o : Expr} {es : List Expr} {ta tb tc te to : DE} {pos : Pos} {st : Stmt} {rest body : List Stmt} {t u : DS} {vs : List Nat}
def dNext : DS := fun D ρ S => D.nx ρ S
def dSeq (t u : DS) : DS := fun D ρ S => t { D with nx := u D } ρ S
theorem ss_nil : SSs X Z [] dNext := pssI pss_nil fun T σ H ⟨ρ, S, D, r, s, z, h, k⟩ => k.nx _ _ _ _ (Tr.refl _ _) s r h
theorem ss_cons (h1 : SS X Z st t) (h2 : SSs X Z rest u) : SSs X Z (st :: rest) (dSeq t u) := by
  refine pssI (pss_cons h1 h2) fun T σ H ⟨ρ, S, D, r, s, z, h, k⟩ => ?_
  exact ⟨ρ, S, _, r, s, z, h, ⟨fun ρ' S' σ' H' t' s' r' h' => ⟨ρ', S', D, r', s', z.trans t', h', k.at t'⟩, k.rt, k.bk, k.ct⟩⟩
theorem ss_one (h1 : SS X Z st t) : SSs X Z [st] t := pss_one h1
def dBreak : DS := fun D ρ S => D.bk ρ S
def dCont : DS := fun D ρ S => D.ct ρ S
def dDrop (te : DE) : DS := fun D ρ S => te ρ S fun _ S1 => D.nx ρ S1
theorem ss_expr (he : SE X Z e te) (hs : swapsWith e none pos.line X.env = pure false) : SS X Z (.Expr e pos) (dDrop te) :=
  psI (ps_expr he hs) fun T σ H ⟨ρ, S, D, r, s, z, h, k⟩ => ⟨ρ, S, _, r, s, z, h, fun d S1 v H1 t1 s1 rd h1 => k.nx _ _ _ _ t1 s1 (t1.rpS s r) h1⟩
def dRet (te : DE) : DS := fun D ρ S => te ρ S D.rt
theorem ss_ret (he : SE X Z e te) : SS X Z (.Return (some e) pos) (dRet te) :=
  psI (ps_ret he) fun T σ H ⟨ρ, S, D, r, s, z, h, k⟩ => ⟨ρ, S, _, r, s, z, h, k.rt⟩
def dRetN : DS := fun D _ S => D.rt .non S
def dIfS (c : DT) (t u : DS) : DS := fun D ρ S => c ρ S fun b S1 => if b = true then t D ρ S1 else u D ρ S1
theorem ss_if {x y : List Stmt} {tA : DT} (hc : ST X Z c tA) (ha : SSs X Z x t) (hb : SSs X Z y u) : SS X Z (.If c x y pos) (dIfS tA t u) := by
  refine psI (ps_if hc ha hb) fun T σ H ⟨ρ, S, D, r, s, z, h, k⟩ => ?_
  refine ⟨ρ, S, _, r, s, z, h, fun b S1 H1 t1 s1 h1 => ?_⟩
  cases b with
  | true => exact ⟨ρ, S1, D, t1.rpS s r, s1, z.trans t1, h1, k.at t1⟩
  | false => exact ⟨ρ, S1, D, t1.rpS s r, s1, z.trans t1, h1, k.at t1⟩
def dNever : DS := fun _ _ _ => False
def gSet (i : Nat) : DG := fun d ρ S Q => Q (ρ.set i (some d)) S
theorem sg_name {i : Nat} {x : Str} (hN : X.N.Nodup) (hi : X.N[i]? = some x) (hx : Loc X.env.scope x) (hf : X.fn x = true ∨ X.env.scope.names.lookup x = some .local) (hv : i ∈ vs) : SG X Z vs (.Name x pos) (gSet i) :=
  pgI (pg_name hN hi hx hf) fun v σ H Q ⟨d, ρ, S, P, rd, r, s, z, h, k⟩ => k _ _ _ _ (Tr.refl _ _) s (r.set rd i) ⟨List.length_set .., fun j hj => List.getElem?_set_ne fun q => hj (by rw [← q]; exact hv)⟩ h
def gNil : DGs := fun ds ρ S Q => ds = [] ∧ Q ρ S
def gCons (t : DG) (u : DGs) : DGs := fun ds ρ S Q => match ds with
  | [] => False
  | d :: r => t d ρ S fun ρ' S' => u r ρ' S' Q
theorem sgs_nil : SGs X Z vs [] gNil := pgsI pgs_nil fun v σ H Q ⟨ds, ρ, S, P, rd, r, s, z, ⟨e, h⟩, k⟩ => by
  subst e
  cases rd
  exact ⟨rfl, k _ _ _ _ (Tr.refl _ _) s r (Out.refl _ _) h⟩
theorem sgs_cons {t : DG} {u : DGs} (h1 : SG X Z vs e t) (h2 : SGs X Z vs es u) (hs : (assignEach (e :: es) X.env).map (·.2) = assign e X.env :: (assignEach es X.env).map (·.2)) : SGs X Z vs (e :: es) (gCons t u) := by
  refine pgsI (pgs_cons h1 h2 hs) fun v σ H Q ⟨ds, ρ, S, P, rd, r, s, z, h, k⟩ => ?_
  cases rd with
  | nil => exact h.elim
  | cons rd rds =>
    refine ⟨_, _, rfl, _, ρ, S, _, rd, r, s, z, h, fun ρ' S' σ' H' t' s' r' o' h' => ?_⟩
    exact ⟨_, ρ', S', P, t'.rpL s rds, r', s', z.trans t', h', fun ρ2 S2 σ2 H2 t2 s2 r2 o2 => k ρ2 S2 σ2 H2 (t'.trans t2) s2 r2 (o'.trans o2)⟩
def gTup (n : Nat) (t : DGs) : DG := fun d ρ S Q => match d with
  | .tup ds => ds.length = n ∧ t ds ρ S Q
  | _ => False
theorem sg_tup {k : Nat} {t : DGs} {n : Nat} (hc : X.calm = true) (h : SGs X Z vs es t) (hn : (assignEach es X.env).length = n) (hst : (assignEach es X.env).findIdx? (·.1) = none) : SG X Z vs (.Tuple es k pos) (gTup n t) := by
  refine pgI (pg_tup hc h hn hst) fun v σ H Q ⟨d, ρ, S, P, rd, r, s, z, h, k⟩ => ?_
  cases rd with
  | tup sq rl =>
    obtain ⟨hl, h⟩ := h
    exact ⟨_, _, rfl, sq.sq, by rw [← rl.length]; exact hl, _, ρ, S, P, rl, r, s, z, h, k⟩
  | non => exact h.elim
  | bl _ => exact h.elim
  | int _ => exact h.elim
  | str _ => exact h.elim
  | ref _ => exact h.elim
  | fn _ => exact h.elim
  | ty _ => exact h.elim
  | lw _ _ => exact h.elim
abbrev D3 := D → D → D → Sto → (Sto → Prop) → Prop
def Op3 (K : PySem.W.Frag) (mg : Str → Option Value) (r : TSet) (o : D3) : Prop :=
  ∀ S H x y d v u w P Q, StO K mg S H → Rp K mg H x v → Rp K mg H y u → Rp K mg H d w → o x y d S P → (∀ S' H', Tr S H S' H' → StO K mg S' H' → P S' → Q H') → r v u w H Q
def gSub (o : D3) (to ti : DE) : DG := fun d ρ S Q => to ρ S fun x S1 => ti ρ S1 fun y S2 => o x y d S2 fun S3 => Q ρ S3
theorem sg_sub {i : Expr} {ti : DE} {r : TSet} {o' : D3} (hs : PSet X r) (h3 : Op3 X.K X.mg r o') (ho : SE X Z o to) (hi : SE X Z i ti)
    (ha : ∀ v, assign (.Subscript o i pos) X.env v = (do
      let ov ← holding [v] (eval o X.env)
      let iv ← holding [v, ov] (eval i X.env)
      standAt pos
      holding [v, ov, iv] (setItem ov iv v)
      release [v, ov, iv] [])) : SG X Z vs (.Subscript o i pos) (gSub o' to ti) := by
  refine pgI (pg_sub ho hi hs ha) fun v σ H Q ⟨d, ρ, S, P, rd, r, s, z, h, k⟩ => ?_
  refine ⟨ρ, S, _, r, s, z, h, fun x S1 v1 H1 t1 s1 rx h1 => ?_⟩
  refine ⟨ρ, S1, _, t1.rpS s r, s1, z.trans t1, h1, fun y S2 v2 H2 t2 s2 ry h2 => ?_⟩
  have t12 := t1.trans t2
  exact h3 S2 H2 x y d v1 v2 v _ _ s2 (t2.rp s1 rx) ry (t12.rp s rd) h2 fun S3 H3 t3 s3 h3' => k _ _ _ _ (t12.trans t3) s3 ((t12.trans t3).rpS s r) (Out.refl _ _) h3'
def dAsg (te : DE) (g : DG) : DS := fun D ρ S => te ρ S fun x S1 => g x ρ S1 D.nx
theorem ss_asg {tg : Expr} {g : DG} (he : SE X Z e te) (hg : SG X Z vs tg g) (hs : swapsWithSole [tg] e pos.line X.env = pure false) (hw : swappedStores [tg] e X.env = pure none)
    (h1 : (assignEach [tg] X.env).map (·.2) = [assign tg X.env]) : SS X Z (.Assign [tg] e pos) (dAsg te g) := by
  refine psI (ps_asg he hg hs hw h1) fun T σ H ⟨ρ, S, D, r, s, z, h, k⟩ => ?_
  refine ⟨ρ, S, _, r, s, z, h, fun x S1 v H1 t1 s1 rx h1 => ?_⟩
  exact ⟨x, ρ, S1, _, rx, t1.rpS s r, s1, z.trans t1, h1, fun ρ' S' σ' H' t' s' r' _ h' => k.nx _ _ _ _ (t1.trans t') s' r' h'⟩
def dPar (i j : Nat) (ta : DA) : DS := fun D ρ S => ta ρ S fun ds S1 => match ds with
  | [x, y] => D.nx ((ρ.set i (some x)).set j (some y)) S1
  | _ => False
theorem ss_par {i j : Nat} {x y : Str} {t : DA} {px py pt : Pos} {kt k2 pt2} (hc : X.calm = true) (hN : X.N.Nodup) (hi : X.N[i]? = some x) (hj : X.N[j]? = some y) (hij : i ≠ j)
    (hx : X.env.scope.names.lookup x = some .local) (hy : X.env.scope.names.lookup y = some .local) (ha : SA X Z [a, b] t)
    (hw : swappedStores [.Tuple [.Name x px, .Name y py] kt pt] (.Tuple [a, b] k2 pt2) X.env = pure (some [x, y]))
    (hs : swapsWithSole [.Tuple [.Name x px, .Name y py] kt pt] (.Tuple [a, b] k2 pt2) pos.line X.env = pure false) :
    SS X Z (.Assign [.Tuple [.Name x px, .Name y py] kt pt] (.Tuple [a, b] k2 pt2) pos) (dPar i j t) := by
  refine psI (ps_par hc hN hi hj hij hx hy ha hw hs) fun T σ H ⟨ρ, S, D, r, s, z, h, k⟩ => ?_
  refine ⟨ρ, S, _, r, s, z, h, fun ds S1 vs H1 t1 s1 rx h1 => ?_⟩
  cases rx with
  | nil => exact h1.elim
  | cons r1 rx =>
    cases rx with
    | nil => exact h1.elim
    | cons r2 rx =>
      cases rx with
      | cons _ _ => exact h1.elim
      | nil => exact ⟨_, _, rfl, k.nx _ _ _ _ t1 s1 (((t1.rpS s r).set r1 i).set r2 j) h1⟩
def dPar3 (i j l : Nat) (ta : DA) : DS := fun D ρ S => ta ρ S fun ds S1 => match ds with
  | [x, y, w] => D.nx (((ρ.set i (some x)).set j (some y)).set l (some w)) S1
  | _ => False
def dAug (o : D2) (i : Nat) (te : DE) : DS := fun D ρ S => ∃ x, ρ[i]? = some (some x) ∧ te ρ S fun y S1 => o x y S1 fun z S2 => D.nx (ρ.set i (some z)) S2
theorem ss_aug {i : Nat} {x : Str} {op : Operator} {r : TIp} {o : D2} {pos' : Pos} (hN : X.N.Nodup) (hi : X.N[i]? = some x) (hx : Loc X.env.scope x) (he : SE X Z e te) (hp : PIp X op r) (ho : Op2 X.K X.mg r o) (hf : X.fn x = true ∨ X.env.scope.names.lookup x = some .local) :
    SS X Z (.AugAssign (.Name x pos') op e pos) (dAug o i te) := by
  refine psI (ps_aug hN hi hx he hp hf) fun T σ H ⟨ρ, S, D, r, s, z, ⟨d, hd, h⟩, k⟩ => ?_
  obtain ⟨v, hv, rv⟩ := r.get i d hd
  refine ⟨v, hv, ρ, S, _, r, s, z, h, fun y S1 u H1 t1 s1 ry h1 => ?_⟩
  exact ho S1 H1 d y v u _ _ s1 (t1.rp s rv) ry h1 fun w S2 v2 H2 t2 s2 rw h2 => k.nx _ _ _ _ (t1.trans t2) s2 (((t1.trans t2).rpS s r).set rw i) h2
def dAugS (og op : D2) (os : D3) (to ti te : DE) : DS := fun D ρ S => to ρ S fun x S1 => ti ρ S1 fun y S2 => og x y S2 fun z S3 => te ρ S3 fun w S4 => op z w S4 fun n S5 => os x y n S5 fun S6 => D.nx ρ S6
theorem ss_augS {i : Expr} {ti : DE} {rg : V → V → Hp → VK → Prop} {rp : TIp} {rs : TSet} {op : Operator} {og o2 : D2} {o3 : D3} {tpos : Pos} (ho : SE X Z o to) (hi : SE X Z i ti) (hg : PGet X rg) (he : SE X Z e te) (hp : PIp X op rp) (hs : PSet X rs)
    (h1 : Op2 X.K X.mg rg og) (h2 : Op2 X.K X.mg rp o2) (h3 : Op3 X.K X.mg rs o3)
    (ha : ∀ ov iv new, augStore i ov iv new = (do holding [new, ov, iv] (setItem ov iv new); release [new, ov, iv] []; pure .next)) : SS X Z (.AugAssign (.Subscript o i tpos) op e pos) (dAugS og o2 o3 to ti te) := by
  refine psI (ps_augS ho hi hg he hp hs ha) fun T σ H ⟨ρ, S, D, r, s, z, h, k⟩ => ?_
  refine ⟨ρ, S, _, r, s, z, h, fun x S1 v1 H1 t1 s1 rx q1 => ?_⟩
  refine ⟨ρ, S1, _, t1.rpS s r, s1, z.trans t1, q1, fun y S2 v2 H2 t2 s2 ry q2 => ?_⟩
  have t12 := t1.trans t2
  refine h1 S2 H2 x y v1 v2 _ _ s2 (t2.rp s1 rx) ry q2 fun w S3 v3 H3 t3 s3 rw q3 => ?_
  have t13 := t12.trans t3
  refine ⟨ρ, S3, _, t13.rpS s r, s3, z.trans t13, q3, fun n S4 v4 H4 t4 s4 rn q4 => ?_⟩
  refine h2 S4 H4 w n v3 v4 _ _ s4 (t4.rp s3 rw) rn q4 fun m S5 v5 H5 t5 s5 rm q5 => ?_
  have t25 := (t3.trans t4).trans t5
  refine h3 S5 H5 x y m v1 v2 v5 _ _ s5 ((t2.trans t25).rp s1 rx) (t25.rp s2 ry) rm q5 fun S6 H6 t6 s6 q6 => ?_
  have t16 := (t12.trans t25).trans t6
  exact k.nx _ _ _ _ t16 s6 (t16.rpS s r) q6
structure IOk (K : PySem.W.Frag) (mg : Str → Option Value) (J : It) (its : List D) (chk : Sto → Prop) (S1 : Sto) (H1 : Hp) : Prop where
  go : ∀ i S H, Tr S1 H1 S H → StO K mg S H → chk S → i < its.length → J.go i H
  stop : ∀ S H, Tr S1 H1 S H → StO K mg S H → chk S → J.stop its.length H
  yld : ∀ i S H v H', Tr S1 H1 S H → StO K mg S H → chk S → i < its.length → J.yld i H v H' → ∃ d, its[i]? = some d ∧ Tr S H S H' ∧ StO K mg S H' ∧ Rp K mg H' d v
abbrev DI := Nv → Sto → (List D → (Sto → Prop) → Sto → Prop) → Prop
def upI (K : PySem.W.Frag) (mg : Str → Option Value) (Z : Zb) (t : DI) : TI := fun σ H R => ∃ ρ S P, RpS K mg H ρ σ ∧ StO K mg S H ∧ Tr Z.S Z.H S H ∧ t ρ S P ∧
  ∀ its chk J S1 H1, Tr S H S1 H1 → StO K mg S1 H1 → IOk K mg J its chk S1 H1 → P its chk S1 → R J H1
def SI (X : Cx) (Z : Zb) (tg it : Expr) (t : DI) : Prop := PI X tg it (upI X.K X.mg Z t)
theorem piI {tg it : Expr} {t t' : TI} (h : PI X tg it t) (i : ∀ σ H Q, t' σ H Q → t σ H Q) : PI X tg it t' := ⟨fun pins s σ H Q I q => h.run pins s σ H Q I (i σ H Q q)⟩
def forD (chk : Sto → Prop) (g : DG) (tb : DS) (N : DEnds) : List D → Nv → Sto → Prop
  | [], ρ, S => chk S ∧ N.nx ρ S
  | x :: r, ρ, S => chk S ∧ g x ρ S fun ρ' S' => tb { N with nx := forD chk g tb N r, ct := forD chk g tb N r, bk := N.nx } ρ' S'
def dFor (wi : DI) (g : DG) (tb : DS) : DS := fun D ρ S => wi ρ S fun its chk S1 => forD chk g tb D its ρ S1
theorem ss_for {tg iter : Expr} {wi : DI} {g : DG} {tb : DS} (hp : PassesOwn (model X.prog X.w) X.A X.env X.xe) (hc : X.calm = true) (hi : SI X Z tg iter wi) (hg : SG X Z vs tg g) (hb : SSs X Z body tb)
    (hs : ∀ x, foldedSetIterable iter X.env x = pure x) : SS X Z (.For tg iter body [] pos) (dFor wi g tb) := by
  refine psI (ps_for hp hc hi hg hb hs) fun T σ H ⟨ρ, S, D, r, s, z, h, k⟩ => ?_
  refine ⟨ρ, S, _, r, s, z, h, fun its chk J S1 H1 t1 s1 io h1 => ?_⟩
  refine ⟨fun i m σ' H' => ∃ ρ' S', RpS X.K X.mg H' ρ' σ' ∧ StO X.K X.mg S' H' ∧ Tr S1 H1 S' H' ∧ i ≤ its.length ∧ m = its.length - i ∧ forD chk g tb D (its.drop i) ρ' S',
    ⟨its.length, ρ, S1, t1.rpS s r, s1, Tr.refl _ _, Nat.zero_le _, rfl, h1⟩, ?_⟩
  rintro i m σ' H' ⟨ρ', S', r', s', t', hi, rfl, h'⟩
  by_cases hlt : i < its.length
  · rw [List.drop_eq_getElem_cons hlt] at h'
    obtain ⟨hk, h'⟩ := h'
    refine .inr ⟨io.go i S' H' t' s' hk hlt, fun σ2 H2 => ∃ ρ2 S2, RpS X.K X.mg H2 ρ2 σ2 ∧ StO X.K X.mg S2 H2 ∧ Tr S1 H1 S2 H2 ∧ forD chk g tb D (its.drop (i + 1)) ρ2 S2, ?_, fun v H2 y => ?_⟩
    · rintro σ2 H2 ⟨ρ2, S2, r2, s2, t2, q2⟩
      exact ⟨its.length - (i + 1), by omega, ρ2, S2, r2, s2, t2, hlt, rfl, q2⟩
    · obtain ⟨d, hd, t2, s2, rd⟩ := io.yld i S' H' v H2 t' s' hk hlt y
      rw [List.getElem?_eq_getElem hlt] at hd
      cases hd
      have tz := (z.trans t1).trans (t'.trans t2)
      refine ⟨_, ρ', S', _, rd, t2.rpS s' r', s2, tz, h', fun ρ3 S3 σ3 H3 t3 s3 r3 _ h3 => ?_⟩
      refine ⟨ρ3, S3, _, r3, s3, tz.trans t3, h3, ⟨fun ρ4 S4 σ4 H4 t4 s4 r4 h4 => ⟨ρ4, S4, r4, s4, ((t'.trans t2).trans t3).trans t4, h4⟩, fun d4 S4 v4 H4 t4 s4 r4 h4 => ?_, fun ρ4 S4 σ4 H4 t4 s4 r4 h4 => ?_, fun ρ4 S4 σ4 H4 t4 s4 r4 h4 => ⟨ρ4, S4, r4, s4, ((t'.trans t2).trans t3).trans t4, h4⟩⟩⟩
      · exact k.rt _ _ _ _ (t1.trans (((t'.trans t2).trans t3).trans t4)) s4 r4 h4
      · exact k.nx _ _ _ _ (t1.trans (((t'.trans t2).trans t3).trans t4)) s4 r4 h4
  · have e : i = its.length := by omega
    subst e
    rw [List.drop_length] at h'
    exact .inl ⟨io.stop S' H' t' s' h'.1, k.nx _ _ _ _ (t1.trans t') s' r' h'.2⟩
def dWhile (c : DT) (tb : DS) : DS := fun D ρ S => ∃ W : Nat → Nv → Sto → Prop, (∃ m, W m ρ S) ∧ ∀ m ρ S, W m ρ S →
  c ρ S fun b S1 => if b = true then tb { D with nx := fun ρ' S' => ∃ m', m' < m ∧ W m' ρ' S', ct := fun ρ' S' => ∃ m', m' < m ∧ W m' ρ' S', bk := D.nx } ρ S1 else D.nx ρ S1
theorem ss_while {tA : DT} {tb : DS} (hp : PassesOwn (model X.prog X.w) X.A X.env X.xe) (hc : ST X Z c tA) (hb : SSs X Z body tb) : SS X Z (.While c body [] pos) (dWhile tA tb) := by
  refine psI (ps_while hp hc hb) fun T σ H ⟨ρ, S, D, r, s, z, ⟨W, ⟨m0, w0⟩, turn⟩, k⟩ => ?_
  refine ⟨fun m σ' H' => ∃ ρ' S', RpS X.K X.mg H' ρ' σ' ∧ StO X.K X.mg S' H' ∧ Tr S H S' H' ∧ W m ρ' S', ⟨m0, ρ, S, r, s, Tr.refl _ _, w0⟩, ?_⟩
  rintro m σ' H' ⟨ρ', S', r', s', t', w'⟩
  refine ⟨ρ', S', _, r', s', z.trans t', turn m ρ' S' w', fun b S1 H1 t1 s1 h1 => ?_⟩
  cases b with
  | false => exact k.nx _ _ _ _ (t'.trans t1) s1 (t1.rpS s' r') h1
  | true =>
    refine ⟨fun σ2 H2 => ∃ m', m' < m ∧ ∃ ρ2 S2, RpS X.K X.mg H2 ρ2 σ2 ∧ StO X.K X.mg S2 H2 ∧ Tr S H S2 H2 ∧ W m' ρ2 S2, fun σ2 H2 h2 => h2, ?_⟩
    refine ⟨ρ', S1, _, t1.rpS s' r', s1, z.trans (t'.trans t1), h1, ⟨?_, fun d4 S4 v4 H4 t4 s4 r4 h4 => ?_, fun ρ4 S4 σ4 H4 t4 s4 r4 h4 => ?_, ?_⟩⟩
    · rintro ρ4 S4 σ4 H4 t4 s4 r4 ⟨m', hm, h4⟩
      exact ⟨m', hm, ρ4, S4, r4, s4, (t'.trans t1).trans t4, h4⟩
    · exact k.rt _ _ _ _ ((t'.trans t1).trans t4) s4 r4 h4
    · exact k.nx _ _ _ _ ((t'.trans t1).trans t4) s4 r4 h4
    · rintro ρ4 S4 σ4 H4 t4 s4 r4 ⟨m', hm, h4⟩
      exact ⟨m', hm, ρ4, S4, r4, s4, (t'.trans t1).trans t4, h4⟩
end
end DL
set_option Elab.async false
set_option linter.all false
set_option maxRecDepth 100000
set_option maxHeartbeats 4000000
namespace DL
open PySem PySem.Spec PyProof.Rows L2 RZ
section
variable {K : PySem.W.Frag} {mg : Str → Option Value} {S S1 : Sto} {H H1 : Hp}
theorem side_kp {p : Addr} {xs ys : List V} (h : H p = some (.lst xs)) : Kp H (upd H p (.lst ys)) := by
  refine ⟨fun a zs q => ?_, fun a o zs q => ?_⟩
  · have ne : a ≠ p := fun e => by rw [e, h] at q; cases q
    rw [upd_ne ne]; exact q
  · have ne : a ≠ p := fun e => by rw [e, h] at q; cases q
    rw [upd_ne ne]; exact q
theorem StO.side {p : Addr} {xs ys : List V} (s : StO K mg S H) (n : S p = none) (h : H p = some (.lst xs)) : StO K mg S (upd H p (.lst ys)) := ⟨fun a c e => by
  obtain ⟨o, q, r⟩ := s a c e
  have ne : a ≠ p := fun z => by rw [z, n] at e; cases e
  exact ⟨o, by rw [upd_ne ne]; exact q, r.mono (side_kp h)⟩, s.tab.to (fun a o e _ nl => by rw [upd_ne (fun z => by rw [z, h] at e; cases e; exact nl _ rfl)]; exact e) fun a n _ _ => n⟩
theorem Tr.side {p : Addr} {ys : List V} (t : Tr S1 H1 S H) (n : H1 p = none) : Tr S1 H1 S (upd H p (.lst ys)) :=
  ⟨fun a o e m k => by
    have ne : a ≠ p := fun z => by rw [z, n] at e; cases e
    rw [upd_ne ne]; exact t.keep a o e m k, fun a ps e m => by
    have ne : a ≠ p := fun z => by rw [z, n] at e; cases e
    rw [upd_ne ne]; exact t.tb a ps e m, t.new⟩
theorem Tr.sideDone {p : Addr} {c : Cell} (t : Tr S1 H1 S H) (n : H1 p = none) : Tr S1 H1 (up1 S p c) H :=
  ⟨t.keep, t.tb, fun a m q => by
    by_cases e : a = p
    · rw [e]; exact n
    · rw [up1_ne e] at q; exact t.new a m q⟩
theorem StO.sideDone {p : Addr} {ds : List D} {xs : List V} (s : StO K mg S H) (h : H p = some (.lst xs)) (r : RpL K mg H ds xs) : StO K mg (up1 S p (.lst ds)) H := ⟨fun a c e => by
  by_cases z : a = p
  · subst z
    rw [up1_same] at e; cases e
    exact ⟨_, h, .lst r⟩
  · rw [up1_ne z] at e
    exact s a c e, s.tab.to (fun a o e _ _ => e) fun a n _ nl => by rw [up1_ne (fun z => nl xs (by rw [z]; exact h))]; exact n⟩
end
def wipeD (ρ : Nv) : List Nat → Nv
  | [] => ρ
  | v :: vs => (wipeD ρ vs).set v none
theorem RpS.wipe {K : PySem.W.Frag} {mg : Str → Option Value} {H : Hp} {ρ : Nv} {σ : L2.St} (r : RpS K mg H ρ σ) : ∀ vs, RpS K mg H (wipeD ρ vs) (wipe σ vs)
  | [] => r
  | v :: vs => (RpS.wipe r vs).forget v
theorem wipe_get_in {σ : L2.St} {j : Nat} : ∀ {vs : List Nat}, j ∈ vs → j < σ.length → (wipe σ vs)[j]? = some none
  | [], h, _ => by cases h
  | v :: vs, h, hl => by
    unfold wipe
    by_cases e : v = j
    · subst e
      exact List.getElem?_set_self (by rw [wipe_length]; exact hl)
    · rw [List.getElem?_set_ne e]
      exact wipe_get_in (by rcases List.mem_cons.mp h with q | q; exact absurd q.symm e; exact q) hl
theorem wipe_ext {σ σ' : L2.St} {vs : List Nat} (o : Out vs σ σ') : wipe σ' vs = wipe σ vs := by
  refine List.ext_getElem? fun j => ?_
  by_cases h : j ∈ vs
  · by_cases hl : j < σ.length
    · rw [wipe_get_in h hl, wipe_get_in h (by rw [o.1]; exact hl)]
    · have h1 : (wipe σ' vs).length ≤ j := by rw [wipe_length, o.1]; omega
      have h2 : (wipe σ vs).length ≤ j := by rw [wipe_length]; omega
      rw [List.getElem?_eq_none h1, List.getElem?_eq_none h2]
  · rw [wipe_out h, wipe_out h]
    exact o.2 j h
theorem wipe_wipe (σ : L2.St) (vs : List Nat) : wipe (wipe σ vs) vs = wipe σ vs := by
  refine List.ext_getElem? fun j => ?_
  by_cases h : j ∈ vs
  · by_cases hl : j < σ.length
    · rw [wipe_get_in h hl, wipe_get_in h (by rw [wipe_length]; exact hl)]
    · rw [List.getElem?_eq_none (by rw [wipe_length, wipe_length]; omega), List.getElem?_eq_none (by rw [wipe_length]; omega)]
  · rw [wipe_out h]
def lcD (chk : Sto → Prop) (g : DG) (tt : DT) (te : DE) (ρ : Nv) : List D → Sto → (List D → Sto → Prop) → Prop
  | [], S, F => chk S ∧ F [] S
  | x :: r, S, F => chk S ∧ g x ρ S fun ρ2 S2 => tt ρ2 S2 fun b S3 => if b = true then te ρ2 S3 fun y S4 => lcD chk g tt te ρ r S4 fun ds S5 => F (y :: ds) S5 else lcD chk g tt te ρ r S3 F
def dLc (wi : DI) (g : DG) (tt : DT) (te : DE) (vs : List Nat) : DE := fun ρ S Q => wi ρ S fun its chk S1 => its.length ≤ sizeLine ∧
  lcD chk g tt te (wipeD ρ vs) its S1 fun ds S2 => ∀ p, S2 p = none → Q (.ref p) (up1 S2 p (.lst ds))
section
variable {X : Cx} {Z : Zb} {elt tg iter : Expr} {ifs : List Expr} {scope : Scope} {own : List (Str × Nat)} {pos spos py : Pos} {wi : DI} {g : DG} {tt : DT} {te : DE}
def STs (X : Cx) (Z : Zb) (ifs : List Expr) (t : DT) : Prop := PTs X ifs (upT X.K X.mg Z t)
def dYes : DT := fun _ S Q => Q true S
theorem sts_nil : STs X Z [] dYes := by
  obtain ⟨h⟩ := pts_nil (X := X)
  exact ⟨fun pins s σ H Q I ⟨ρ, S, P, r, st, z, h1, k⟩ => h pins s σ H Q I (k _ _ _ (Tr.refl _ _) st h1)⟩
theorem sts_one {c : Expr} {t : DT} (h : ST X Z c t) : STs X Z [c] t := pts_one h
theorem up_lc : ∀ σ H Q, upE X.K X.mg Z (dLc wi g tt te vs) σ H Q → tLc (upI X.K X.mg Z wi) (upG X.K X.mg Z vs g) (upT X.K X.mg Z tt) (upE X.K X.mg Z te) vs σ H Q := by
  rintro σ H Q ⟨ρ, S, P, r, s, z, h, k⟩
  refine ⟨ρ, S, _, r, s, z, h, fun its chk J S1 H1 t1 s1 io ⟨hz, h1⟩ D hD => ?_⟩
  refine ⟨fun i m H' => ∃ S' ds xs, StO X.K X.mg S' H' ∧ Tr S1 H1 S' H' ∧ H' D = some (.lst xs) ∧ S' D = none ∧ RpL X.K X.mg H' ds xs ∧ ds.length ≤ i ∧ i ≤ its.length ∧ m = its.length - i ∧
    lcD chk g tt te (wipeD ρ vs) (its.drop i) S' fun es S2 => ∀ p, S2 p = none → P (.ref p) (up1 S2 p (.lst (ds ++ es))), ⟨its.length, ?_⟩, ?_⟩
  · exact ⟨S1, [], [], s1.laidH hD, Tr.laidH hD, upd_same, s1.free hD, .nil, Nat.zero_le _, Nat.zero_le _, rfl, h1⟩
  · rintro i m H' ⟨S', ds, xs, s', t', hD', nD, rl, hl, hi, rfl, h'⟩
    by_cases hlt : i < its.length
    · rw [List.drop_eq_getElem_cons hlt] at h'
      obtain ⟨hk, h'⟩ := h'
      refine .inr ⟨io.go i S' H' t' s' hk hlt, _, fun H2 w2 => ⟨its.length - (i + 1), by omega, w2⟩, fun v H2 y => ?_⟩
      obtain ⟨d, hd, t2, s2, rd⟩ := io.yld i S' H' v H2 t' s' hk hlt y
      rw [List.getElem?_eq_getElem hlt] at hd
      cases hd
      have tz := (z.trans t1).trans (t'.trans t2)
      have t12 := (t1.trans t').trans t2
      refine ⟨_, _, S', _, rd, (t12.rpS s r).wipe vs, s2, tz, h', fun ρ3 S3 σ3 H3 t3 s3 r3 o3 h3 => ⟨by rw [wipe_ext o3, wipe_wipe], ?_⟩⟩
      refine ⟨ρ3, S3, _, r3, s3, tz.trans t3, h3, fun b S4 H4 t4 s4 h4 => ?_⟩
      have t24 := (t2.trans t3).trans t4
      have nD4 : S4 D = none := by
        cases e : S4 D with
        | none => rfl
        | some c => rw [t24.new D nD (by rw [e]; exact fun z => nomatch z)] at hD'; cases hD'
      cases b with
      | false =>
        exact ⟨S4, ds, xs, s4, t'.trans t24, t24.keep _ _ hD' nD (fun _ z => by cases z), nD4, t24.rpL s' rl, by omega, by omega, rfl, h4⟩
      | true =>
        refine ⟨ρ3, S4, _, t4.rpS s3 r3, s4, (tz.trans t3).trans t4, h4, fun y S5 v5 H5 t5 s5 r5 h5 => ?_⟩
        have t25 := t24.trans t5
        have hD5 := t25.keep _ _ hD' nD (fun _ z => by cases z)
        have nD5 : S5 D = none := by
          cases e : S5 D with
          | none => rfl
          | some c => rw [t25.new D nD (by rw [e]; exact fun z => nomatch z)] at hD'; cases hD'
        have hll := rl.length
        refine ⟨xs, hD5, by omega, S5, ds ++ [y], xs ++ [v5], s5.side nD5 hD5, (t'.trans t25).side hD, upd_same, nD5, ?_, ?_, by omega, rfl, ?_⟩
        · exact ((t25.rpL s' rl).append (.one r5)).mono (side_kp hD5)
        · rw [List.length_append, List.length_singleton]; omega
        · have e : (fun es S2 => ∀ p, S2 p = none → P (.ref p) (up1 S2 p (.lst (ds ++ [y] ++ es)))) = fun es S2 => ∀ p, S2 p = none → P (.ref p) (up1 S2 p (.lst (ds ++ (y :: es)))) := by
            funext es S2
            rw [List.append_assoc, List.singleton_append]
          rw [e]
          exact h5
    · have e : i = its.length := by omega
      subst e
      rw [List.drop_length] at h'
      refine .inl ⟨io.stop S' H' t' s' h'.1, ?_⟩
      have h2 := h'.2 D nD
      rw [List.append_nil] at h2
      exact k _ _ _ _ (t1.trans (t'.sideDone hD)) (s'.sideDone hD' rl) (.ref D) h2
theorem s_lc (hc : X.calm = true) (hN : X.N.Nodup) (hi : SI X Z tg iter wi) (ok : BlkOk X.N X.env.scope scope own)
    (hg : ∀ (s : Shared) (H : Hp) (C : Addr) (cl : List (Str × Addr)) (fp : List Addr), SG (X.blk s H scope (compEnvC scope cl C X.env) fp) Z (own.map (·.2)) tg g) (ht : ∀ (s : Shared) (H : Hp) (C : Addr) (cl : List (Str × Addr)) (fp : List Addr), STs (X.blk s H scope (compEnvC scope cl C X.env) fp) Z ifs tt)
    (he : ∀ (s : Shared) (H : Hp) (C : Addr) (cl : List (Str × Addr)) (fp : List Addr), SE (X.blk s H scope (compEnvC scope cl C X.env) fp) Z elt te) (hs : ∀ x, foldedSetIterable iter X.env x = pure x) :
    SE X Z (.ListComp elt [⟨tg, iter, ifs, 0⟩] scope pos) (dLc wi g tt te (own.map (·.2))) := peI (pe_lc (g := upG X.K X.mg Z (List.map (fun (x : Str × Nat) => x.2) own) g) (tt := upT X.K X.mg Z tt) (te := upE X.K X.mg Z te) hc hN hi ok hg ht he hs) up_lc
theorem ss_setLc {i : Nat} {y : Str} (hc : X.calm = true) (hN : X.N.Nodup) (hy : X.N[i]? = some y) (hyl : X.env.scope.names.lookup y = some .local)
    (hsw : swapsWith (.ListComp elt [⟨tg, iter, ifs, 0⟩] scope pos) (some (.Name y py)) spos.line X.env = pure true) (hi : SI X Z tg iter wi) (ok : BlkOk X.N X.env.scope scope own)
    (hg : ∀ (s : Shared) (H : Hp) (C : Addr) (cl : List (Str × Addr)) (fp : List Addr), SG (X.blk s H scope (compEnvC scope cl C X.env) fp) Z (own.map (·.2)) tg g) (ht : ∀ (s : Shared) (H : Hp) (C : Addr) (cl : List (Str × Addr)) (fp : List Addr), STs (X.blk s H scope (compEnvC scope cl C X.env) fp) Z ifs tt)
    (he : ∀ (s : Shared) (H : Hp) (C : Addr) (cl : List (Str × Addr)) (fp : List Addr), SE (X.blk s H scope (compEnvC scope cl C X.env) fp) Z elt te) (hs : ∀ x, foldedSetIterable iter X.env x = pure x) :
    SS X Z (.Assign [.Name y py] (.ListComp elt [⟨tg, iter, ifs, 0⟩] scope pos) spos) (dAsg (dLc wi g tt te (own.map (·.2))) (gSet i)) := by
  refine psI (ps_setLc (g := upG X.K X.mg Z (List.map (fun (x : Str × Nat) => x.2) own) g) (tt := upT X.K X.mg Z tt) (te := upE X.K X.mg Z te) hc hN hy hyl hsw hi ok hg ht he hs) fun T σ H ⟨ρ, S, N, r, s, z, h, k⟩ => ?_
  refine up_lc σ H _ ⟨ρ, S, _, r, s, z, h, fun d S1 v H1 t1 s1 rd h1 => ?_⟩
  exact k.nx _ _ _ _ t1 s1 ((t1.rpS s r).set rd i) h1
end
section
variable {X : Cx} {Z : Zb} {tg e : Expr} {es : List Expr} {te : DE} {ta : DA} {p pos : Pos}
def iAny (te : DE) : DI := fun ρ S P => te ρ S fun x S1 => match x with
  | .tup ds => P ds (fun _ => True) S1
  | .ref a => ∃ ds, LA S1 a ds ∧ P ds (fun S' => LA S' a ds) S1
  | _ => False
theorem iok_list {K : PySem.W.Frag} {mg : Str → Option Value} {S1 : Sto} {H1 : Hp} {a : Addr} {ds : List D} : IOk K mg (Itl K a) ds (fun S' => LA S' a ds) S1 H1 where
  go := fun i S H t s l hi => by
    obtain ⟨xs, sq, rl⟩ := s.sqL l
    exact ⟨xs, xs[i]'(by rw [← rl.length]; exact hi), sq, List.getElem?_eq_getElem _⟩
  stop := fun S H t s l => by
    obtain ⟨xs, sq, rl⟩ := s.sqL l
    exact ⟨xs, sq, by rw [rl.length]; exact Nat.le_refl _⟩
  yld := fun i S H v H' t s l hi ⟨e, q⟩ => by
    subst e
    obtain ⟨xs, sq, rl⟩ := s.sqL l
    obtain ⟨d, h1, h2⟩ := rl.get' (q xs sq)
    exact ⟨d, h1, Tr.refl _ _, s, h2⟩
theorem iok_tup {K : PySem.W.Frag} {mg : Str → Option Value} {S1 : Sto} {H1 : Hp} {a : Addr} {ds : List D} {xs : List V} (s1 : StO K mg S1 H1) (sq : TupA K H1 a xs) (rl : RpL K mg H1 ds xs) : IOk K mg (Itt K a) ds (fun _ => True) S1 H1 where
  go := fun i S H t s l hi => ⟨xs, xs[i]'(by rw [← rl.length]; exact hi), (t.sqT s1 _ _ sq).sq, List.getElem?_eq_getElem _⟩
  stop := fun S H t s l => ⟨xs, (t.sqT s1 _ _ sq).sq, by rw [rl.length]; exact Nat.le_refl _⟩
  yld := fun i S H v H' t s l hi ⟨e, q⟩ => by
    subst e
    obtain ⟨d, h1, h2⟩ := (t.rpL s1 rl).get' (q xs (t.sqT s1 _ _ sq).sq)
    exact ⟨d, h1, Tr.refl _ _, s, h2⟩
theorem pi_any {l : Expr} {tl : TE} (hl : PE X l tl) : PI X tg l (fun σ H R => tl σ H fun x H1 => ∃ a, x = .ref a ∧ (((∃ xs, SqL X.K H1 a xs) ∧ R (Itl X.K a) H1) ∨ ((∃ xs, SqT X.K H1 a xs) ∧ R (Itt X.K a) H1))) := by
  refine ⟨fun pins s σ H R I h => ?_⟩
  refine thn (hl.run pins s σ H _ I h) fun v s1 ⟨x, H1, I1, r1, q1⟩ => ?_
  obtain ⟨a, e, q⟩ := q1
  subst e
  cases r1
  rcases q with ⟨⟨xs, hq⟩, q⟩ | ⟨⟨xs, hq⟩, q⟩
  · obtain ⟨its, rv, p, hz⟩ := I1.list hq
    refine wpAny_pyIter_list p.isList ?_
    refine ⟨s1.heap.objs.size, [s1.heap.objs.size], _, _, H1, rfl, I1.kept (t' := s1.toks) fun b o e => Heap.get?_push_of_some _ e, turn_list a _, ⟨_, Heap.get?_push_size _ rfl, rfl, rfl⟩, fun b hb => ?_, q⟩
    have e : b = s1.heap.objs.size := by simpa using hb
    subst e
    exact I1.fpOk (Nat.le_refl _) (I1.hok.fresh (Nat.le_refl _))
  · obtain ⟨its, rv, p, hz⟩ := I1.tuple hq
    refine wpAny_pyIter_tuple (show s1.heap.IsTuple a its.toArray from p) ?_
    refine ⟨s1.heap.objs.size, [s1.heap.objs.size], _, _, H1, rfl, I1.kept (t' := s1.toks) fun b o e => Heap.get?_push_of_some _ e, turn_tuple a _, ⟨_, Heap.get?_push_size _ rfl, rfl, rfl⟩, fun b hb => ?_, q⟩
    have e : b = s1.heap.objs.size := by simpa using hb
    subst e
    exact I1.fpOk (Nat.le_refl _) (I1.hok.fresh (Nat.le_refl _))
theorem si_any (he : SE X Z e te) : SI X Z tg e (iAny te) := by
  refine piI (pi_any he) fun σ H R ⟨ρ, S, P, r, s, z, h, k⟩ => ?_
  refine ⟨ρ, S, _, r, s, z, h, fun x S1 v H1 t1 s1 rx h1 => ?_⟩
  cases rx with
  | ref a =>
    obtain ⟨ds, l, h1⟩ := h1
    obtain ⟨xs, sq, rl⟩ := s1.sqL l
    exact ⟨a, rfl, .inl ⟨⟨xs, sq⟩, k _ _ _ _ _ t1 s1 iok_list h1⟩⟩
  | tup sq rl => exact ⟨_, rfl, .inr ⟨⟨_, sq.sq⟩, k _ _ _ _ _ t1 s1 (iok_tup s1 sq rl) h1⟩⟩
  | non => exact h1.elim
  | bl _ => exact h1.elim
  | int _ => exact h1.elim
  | str _ => exact h1.elim
  | fn _ => exact h1.elim
  | ty _ => exact h1.elim
  | lw _ _ => exact h1.elim
def rngD (lo : Int) (n : Nat) : List D := (List.range n).map fun i => D.int (lo + (i : Nat))
theorem iok_rng {K : PySem.W.Frag} {mg : Str → Option Value} {S1 : Sto} {H1 : Hp} {lo : Int} {n : Nat} : IOk K mg (Itr lo n) (rngD lo n) (fun _ => True) S1 H1 where
  go := fun i S H t s l hi => by
    have e : (rngD lo n).length = n := by unfold rngD; rw [List.length_map, List.length_range]
    exact (show i < n by omega)
  stop := fun S H t s l => by
    have e : (rngD lo n).length = n := by unfold rngD; rw [List.length_map, List.length_range]
    exact (show n ≤ (rngD lo n).length by omega)
  yld := fun i S H v H' t s l hi ⟨e, q⟩ => by
    subst e q
    have e : (rngD lo n).length = n := by unfold rngD; rw [List.length_map, List.length_range]
    refine ⟨.int (lo + i), ?_, Tr.refl _ _, s, .int _⟩
    unfold rngD
    rw [List.getElem?_map, List.getElem?_range (by omega)]
    rfl
def rng1P (P : List D → (Sto → Prop) → Sto → Prop) (ds : List D) (S1 : Sto) : Prop := match ds with
  | [.int j] => -(2 ^ 62) ≤ j ∧ j < 2 ^ 62 ∧ P (rngD 0 j.toNat) (fun _ => True) S1
  | _ => False
def rng2P (P : List D → (Sto → Prop) → Sto → Prop) (ds : List D) (S1 : Sto) : Prop := match ds with
  | [.int i, .int j] => (-(2 ^ 62) ≤ i ∧ i < 2 ^ 62 ∧ -(2 ^ 62) ≤ j ∧ j < 2 ^ 62) ∧ P (rngD i (j - i).toNat) (fun _ => True) S1
  | _ => False
def rng3P (P : List D → (Sto → Prop) → Sto → Prop) (ds : List D) (S1 : Sto) : Prop := match ds with
  | [.int i, .int j, .int c] => c = -1 ∧ (-(2 ^ 62) ≤ i ∧ i < 2 ^ 62 ∧ -(2 ^ 62) ≤ j ∧ j < 2 ^ 62) ∧ P ((List.range (i - j).toNat).map fun k => D.int (i - (k : Nat))) (fun _ => True) S1
  | _ => False
def iRng1 (ta : DA) : DI := fun ρ S P => ta ρ S (rng1P P)
def iRng2 (ta : DA) : DI := fun ρ S P => ta ρ S (rng2P P)
def iRng3 (ta : DA) : DI := fun ρ S P => ta ρ S (rng3P P)
theorem RpL.i1 {K : PySem.W.Frag} {mg : Str → Option Value} {H : Hp} {j : Int} {vs : List V} (r : RpL K mg H [.int j] vs) : vs = [.int j] := by
  cases r with | cons r t => cases r; cases t; rfl
theorem RpL.i2 {K : PySem.W.Frag} {mg : Str → Option Value} {H : Hp} {i j : Int} {vs : List V} (r : RpL K mg H [.int i, .int j] vs) : vs = [.int i, .int j] := by
  cases r with | cons r t => cases r; rw [RpL.i1 t]
theorem si_rng1 {a : Expr} (hg : Gl X "range") (hm : X.mg "range" = none) (ha : SA X Z [a] ta) (hs : starEach [a] X.env = [(false, eval a X.env)]) : SI X Z tg (.Call (.Name "range" p) [a] [] pos) (iRng1 ta) := by
  refine piI (pi_range1 hg hm ha hs) fun σ H R ⟨ρ, S, P, r, s, z, h, k⟩ => ?_
  refine ⟨ρ, S, _, r, s, z, h, fun x S1 v H1 t1 s1 rx h1 => ?_⟩
  unfold rng1P at h1
  split at h1
  · exact ⟨_, rx.i1, h1.1, h1.2.1, k _ _ _ _ _ t1 s1 iok_rng h1.2.2⟩
  · exact h1.elim
theorem si_rng2 {a b : Expr} (hg : Gl X "range") (hm : X.mg "range" = none) (ha : SA X Z [a, b] ta) (hs : starEach [a, b] X.env = [(false, eval a X.env), (false, eval b X.env)]) (hs2 : starEach [b] X.env = [(false, eval b X.env)]) :
    SI X Z tg (.Call (.Name "range" p) [a, b] [] pos) (iRng2 ta) := by
  refine piI (pi_range2 hg hm ha hs hs2) fun σ H R ⟨ρ, S, P, r, s, z, h, k⟩ => ?_
  refine ⟨ρ, S, _, r, s, z, h, fun x S1 v H1 t1 s1 rx h1 => ?_⟩
  unfold rng2P at h1
  split at h1
  · exact ⟨_, _, rx.i2, h1.1, k _ _ _ _ _ t1 s1 iok_rng h1.2⟩
  · exact h1.elim
def zipD : List D → List D → List D
  | x :: xs, y :: ys => .tup [x, y] :: zipD xs ys
  | _, _ => []
theorem zipD_length : ∀ xs ys : List D, (zipD xs ys).length = min xs.length ys.length
  | [], _ => by simp [zipD]
  | _ :: _, [] => by simp [zipD]
  | x :: xs, y :: ys => by
    show (zipD xs ys).length + 1 = min (xs.length + 1) (ys.length + 1)
    rw [zipD_length xs ys]; omega
end
end DL
set_option Elab.async false
set_option linter.all false
set_option maxRecDepth 100000
set_option maxHeartbeats 4000000
namespace DL
open PySem PySem.Spec PyProof.Rows L2 RZ
open AutoSeq1 (wpAny_loadPart')
theorem tuple_mul1 (l : Addr) (items : Array Value) (n : Nat) (dd : Option Addr) (sl : Array (Option Value)) (x : Int) (u : Tok) (hx : x = 1) :
    Meets (Builtin.«tuple.__mul__» ⟨[.ref l, .int x u], []⟩) (fun _ R s => s.heap.get? l = some { cls := .type "tuple", dict := dd, data := .seq items n, slots := sl } ∧
      R (.ok (.ret (Value.ref l))) s) :=
  .of_wp fun prog w A R s h => by
    obtain ⟨hp, g, d, tk, os⟩ := s
    obtain ⟨hl, h⟩ := h
    have f1 := AutoSeq1.idx_int
    subst hx
    have c0 : (decide ((1 : Int) < -(2 ^ 63)) || decide ((1 : Int) ≥ 2 ^ 63)) = false := by decide
    have c1 : (items.isEmpty || (1 : Int) == 1) = true := by simp
    wp_walk using wpAny_loadPart' hl
    repeat (first
      | (refine wpAny_ite_false (decide_eq_false (by rw [c0]; exact Bool.false_ne_true)) ?_; wp_walk using wpAny_loadPart' hl)
      | (refine wpAny_ite_true (decide_eq_true c1) ?_; wp_walk using wpAny_loadPart' hl))
    exact ⟨_, rfl, h⟩
theorem tuple_mul0 (l : Addr) (items : Array Value) (n : Nat) (dd : Option Addr) (sl : Array (Option Value)) (x : Int) (u : Tok) (hx : x ≤ 0) (hx2 : -(2 ^ 63) ≤ x) (hi : items.isEmpty = false) :
    Meets (Builtin.«tuple.__mul__» ⟨[.ref l, .int x u], []⟩) (fun _ R s => s.heap.get? l = some { cls := .type "tuple", dict := dd, data := .seq items n, slots := sl } ∧
      R (.ok (.ret (Value.ref s.heap.objs.size))) { s with heap := s.heap.push { cls := Value.type "tuple", data := Data.seq #[] }, toks := s.toks }) :=
  .of_wp fun prog w A R s h => by
    obtain ⟨hp, g, d, tk, os⟩ := s
    obtain ⟨hl, h⟩ := h
    have f1 := AutoSeq1.idx_int
    have c0 : (decide (x < -(2 ^ 63)) || decide (x ≥ 2 ^ 63)) = false := by rw [decide_eq_false (by omega), decide_eq_false (by omega)]; rfl
    have c1 : (items.isEmpty || x == 1) = false := by
      rw [hi, Bool.false_or]; exact beq_eq_false_iff_ne.mpr (by omega)
    have c2 : (decide (x ≤ 0) || items.isEmpty) = true := by rw [decide_eq_true hx]; rfl
    wp_walk using wpAny_loadPart' hl
    repeat (first
      | (refine wpAny_ite_false (decide_eq_false (by rw [c0]; exact Bool.false_ne_true)) ?_; wp_walk using wpAny_loadPart' hl)
      | (refine wpAny_ite_false (decide_eq_false (by rw [c1]; exact Bool.false_ne_true)) ?_; wp_walk using wpAny_loadPart' hl)
      | (refine wpAny_ite_true (decide_eq_true c2) ?_; wp_walk using wpAny_loadPart' hl))
    exact ⟨_, rfl, h⟩
def rRepT1 (K : PySem.W.Frag) : R2 := fun x y H Q => ∃ l k xs, x = .ref l ∧ y = .int k ∧ SqT K H l xs ∧ ((k = 1 ∧ Q (.ref l) H) ∨ (k ≤ 0 ∧ -(2 ^ 63) ≤ k ∧ xs ≠ [] ∧ ∀ p, H p = none → Q (.ref p) (upd H p (.tup []))))
theorem op_repT1 {X : Cx} : OpR X (binaryOp .Mult) (rRepT1 X.K) := by
  intro pins s σ H x y v u Q I rx ry h
  obtain ⟨l, k, xs, rfl, rfl, hT, q⟩ := h
  cases rx
  obtain ⟨t, rfl⟩ := ry
  obtain ⟨its, r, ⟨⟨cls, dd, data, sl⟩, ho, hc, n, hd⟩, hs⟩ := I.tuple hT
  simp only at hc hd
  subst hc hd
  rcases q with ⟨hk, q⟩ | ⟨hk, hk2, hne, q⟩
  · refine wpAny_binaryOp_repeat_ref (T := "tuple") (U := "int") (by decide) ⟨_, ho, rfl⟩ (fun s' => typeIs_int s' k t) noFill_tuple_mul F.fills_int_mul F.slot_int_rmul repeat_tuple F.slot_int_index.lookup
      (call_meets F.slot_int_rmul (typeIs_int s k t) F.entry_int_rmul (F.args_int_rmul_2 _ _) (int_rmul_tuple k t l its.toArray n dd sl)
        ⟨ho, rfl, ⟨_, ho, rfl⟩, call_meets F.slot_tuple_mul ⟨_, ho, rfl⟩ F.entry_tuple_mul (F.args_tuple_mul_2 _ _) (tuple_mul1 l its.toArray n dd sl k t hk) ⟨ho, ?_⟩⟩)
    exact ⟨.ref l, H, I, rfl, q⟩
  · have hi : its.toArray.isEmpty = false := by
      cases its with
      | nil => exact absurd (List.eq_nil_of_length_eq_zero r.length) hne
      | cons a b => rfl
    refine wpAny_binaryOp_repeat_ref (T := "tuple") (U := "int") (by decide) ⟨_, ho, rfl⟩ (fun s' => typeIs_int s' k t) noFill_tuple_mul F.fills_int_mul F.slot_int_rmul repeat_tuple F.slot_int_index.lookup
      (call_meets F.slot_int_rmul (typeIs_int s k t) F.entry_int_rmul (F.args_int_rmul_2 _ _) (int_rmul_tuple k t l its.toArray n dd sl)
        ⟨ho, rfl, ⟨_, ho, rfl⟩, call_meets F.slot_tuple_mul ⟨_, ho, rfl⟩ F.entry_tuple_mul (F.args_tuple_mul_2 _ _) (tuple_mul0 l its.toArray n dd sl k t hk hk2 hi) ⟨ho, ?_⟩⟩)
    refine ⟨.ref s.heap.objs.size, _, I.laid (t' := s.toks) (o := .tup []) (fun b ob q => Heap.get?_push_of_some _ q) (Nat.le_refl _) ?_, rfl, q _ (I.hok.fresh (Nat.le_refl _))⟩
    exact ⟨Nat.zero_le _, [], .nil, IsTup.new _ _⟩
end DL
set_option Elab.async false
set_option linter.all false
set_option maxRecDepth 100000
set_option maxHeartbeats 4000000
namespace DL
open PySem PySem.Spec PyProof.Rows L2 RZ
section
variable {X : Cx} {K : PySem.W.Frag} {mg : Str → Option Value}
def dAdd : D2 := fun x y S Q => match x, y with
  | .int i, .int j => Q (.int (i + j)) S
  | .str i, .str j => i.length + j.length ≤ sizeLine ∧ Q (.str (i ++ j)) S
  | .tup xs, .tup ys => xs.length + ys.length ≤ sizeLine ∧ Q (.tup (xs ++ ys)) S
  | .ref a, .ref b => ∃ xs ys, S a = some (.lst xs) ∧ S b = some (.lst ys) ∧ xs.length + ys.length ≤ sizeLine ∧ ∀ p, S p = none → Q (.ref p) (up1 S p (.lst (xs ++ ys)))
  | _, _ => False
def rAddAll (K : PySem.W.Frag) : R2 := fun x y H Q => (((∃ i j, x = .int i ∧ y = .int j ∧ Q (.int (i + j)) H) ∨ (∃ i j, x = .str i ∧ y = .str j ∧ i.length + j.length ≤ sizeLine ∧ Q (.str (i ++ j)) H)) ∨ rCatA K x y H Q) ∨ rCat x y H Q
theorem op_addAll : OpR X (binaryOp .Add) (rAddAll X.K) := ((op_add.or op_add_str).or op_catA).or op_cat
theorem add_ok : Op2 K mg (rAddAll K) dAdd := by
  intro S H x y v u P Q s rx ry h k
  cases rx <;> cases ry <;> first
    | exact h.elim
    | exact .inl (.inl (.inl ⟨_, _, rfl, rfl, k.now s (.int _) h⟩))
    | exact .inl (.inl (.inr ⟨_, _, rfl, rfl, h.1, k.now s (.str _) h.2⟩))
    | skip
  · obtain ⟨xs, ys, ha, hb, hl, q⟩ := h
    obtain ⟨us, h1, r1⟩ := s.lst ha
    obtain ⟨vs, h2, r2⟩ := s.lst hb
    exact .inr ⟨_, _, us, vs, rfl, rfl, h1, h2, by rw [← r1.length, ← r2.length]; exact hl, k.newL s (r1.append r2) q⟩
  · rename_i a xs ds s1 r1 b ys es s2 r2
    obtain ⟨hl, q⟩ := h
    refine .inl (.inr ⟨_, _, _, _, rfl, rfl, s1.sq, s2.sq, by rw [← r1.length, ← r2.length]; exact hl, fun e => ?_, fun _ e => ?_, fun _ _ => k.newT s (r1.append r2) q⟩)
    · subst e
      cases r1
      exact k.now s (.tup s2 r2) q
    · subst e
      cases r2
      rw [List.append_nil] at q
      exact k.now s (.tup s1 r1) q
def dSub : D2 := fun x y S Q => match x, y with
  | .int i, .int j => Q (.int (i - j)) S
  | _, _ => False
theorem sub_ok : Op2 K mg (rI0 fun i j => .int (i - j)) dSub := by
  intro S H x y v u P Q s rx ry h k
  cases rx <;> cases ry <;> first
    | exact h.elim
    | exact ⟨_, _, rfl, rfl, k.now s (.int _) h⟩
def CMulA (i j : Int) : Prop := CMul i j ∨ CMulW i j
def dMul : D2 := fun x y S Q => match x, y with
  | .int i, .int j => CMulA i j ∧ Q (.int (i * j)) S
  | .ref a, .int j => ∃ xs, S a = some (.lst xs) ∧ -(2 ^ 63) ≤ j ∧ j < 2 ^ 63 ∧ xs.length * j.toNat ≤ sizeLine ∧ ∀ p, S p = none → Q (.ref p) (up1 S p (.lst (List.replicate j.toNat xs).flatten))
  | .tup xs, .int j => xs ≠ [] ∧ -(2 ^ 63) ≤ j ∧ j ≤ 1000 ∧ xs.length ≤ 1000 ∧ Q (.tup (List.replicate j.toNat xs).flatten) S
  | _, _ => False
def rMulAll (K : PySem.W.Frag) : R2 := fun x y H Q => (((rI CMul (fun i j => .int (i * j)) x y H Q ∨ rI CMulW (fun i j => .int (i * j)) x y H Q) ∨ rRep x y H Q) ∨ rRepT K x y H Q) ∨ rRepT1 K x y H Q
theorem op_mulAll : OpR X (binaryOp .Mult) (rMulAll X.K) := (((op_mul.or op_mulW).or op_rep).or op_repT).or op_repT1
theorem mul_ok : Op2 K mg (rMulAll K) dMul := by
  intro S H x y v u P Q s rx ry h k
  cases rx <;> cases ry <;> first
    | exact h.elim
    | skip
  · rcases h.1 with c | c
    · exact .inl (.inl (.inl (.inl ⟨_, _, rfl, rfl, c, k.now s (.int _) h.2⟩)))
    · exact .inl (.inl (.inl (.inr ⟨_, _, rfl, rfl, c, k.now s (.int _) h.2⟩)))
  · obtain ⟨xs, ha, h1, h2, hl, q⟩ := h
    obtain ⟨us, e1, r1⟩ := s.lst ha
    exact .inl (.inl (.inr ⟨_, _, us, rfl, rfl, e1, h1, h2, by rw [← r1.length]; exact hl, k.newL s (r1.rep _) q⟩))
  · rename_i a xs ds s1 r1 j
    obtain ⟨hne, h1, h2, hl, q⟩ := h
    have e := r1.length
    have hne' : xs ≠ [] := fun z => hne (List.eq_nil_of_length_eq_zero (by rw [e, z]; rfl))
    by_cases c1 : j = 1
    · subst c1
      refine .inr ⟨_, _, _, rfl, rfl, s1.sq, .inl ⟨rfl, ?_⟩⟩
      have q' : P (.tup ds) S := by
        have e2 : (List.replicate (Int.toNat 1) ds).flatten = ds := by
          show [ds].flatten = ds
          simp
        rw [e2] at q; exact q
      exact k.now s (.tup s1 r1) q'
    · by_cases c0 : j ≤ 0
      · refine .inr ⟨_, _, _, rfl, rfl, s1.sq, .inr ⟨c0, h1, hne', ?_⟩⟩
        have e2 : j.toNat = 0 := by omega
        rw [e2] at q
        exact k.newT s .nil q
      · exact .inl (.inr ⟨_, _, _, rfl, rfl, s1.sq, hne', by omega, h2, by omega, k.newT s (r1.rep _) q⟩)
def dFdiv : D2 := fun x y S Q => match x, y with
  | .int i, .int j => CDivW i j ∧ Q (.int (i / j)) S
  | _, _ => False
theorem fdiv_ok : Op2 K mg (rI CDivW fun i j => .int (i / j)) dFdiv := by
  intro S H x y v u P Q s rx ry h k
  cases rx <;> cases ry <;> first
    | exact h.elim
    | exact ⟨_, _, rfl, rfl, h.1, k.now s (.int _) h.2⟩
def dMod : D2 := fun x y S Q => match x, y with
  | .int i, .int j => 0 < j ∧ Q (.int (i % j)) S
  | _, _ => False
theorem mod_ok : Op2 K mg (rI (fun _ j => 0 < j) fun i j => .int (i % j)) dMod := by
  intro S H x y v u P Q s rx ry h k
  cases rx <;> cases ry <;> first
    | exact h.elim
    | exact ⟨_, _, rfl, rfl, h.1, k.now s (.int _) h.2⟩
def dPow : D2 := fun x y S Q => match x, y with
  | .int i, .int j => CPow i j ∧ Q (.int (i ^ j.toNat)) S
  | _, _ => False
theorem pow_ok : Op2 K mg (rI CPow fun i j => .int (i ^ j.toNat)) dPow := by
  intro S H x y v u P Q s rx ry h k
  cases rx <;> cases ry <;> first
    | exact h.elim
    | exact ⟨_, _, rfl, rfl, h.1, k.now s (.int _) h.2⟩
def dNeg : D1 := fun x S Q => match x with
  | .int i => Q (.int (-i)) S
  | _ => False
theorem neg_ok : Op1 K mg (rU fun i => .int (-i)) dNeg := by
  intro S H x v P Q s rx h k
  cases rx <;> first
    | exact h.elim
    | exact ⟨_, rfl, k.now s (.int _) h⟩
mutual
inductive Dd (S : Sto) : D → PyData → Prop where
  | non : Dd S .non .none
  | bl (b : Bool) : Dd S (.bl b) (.bool b)
  | int (i : Int) : Dd S (.int i) (.int i)
  | str (x : Str) : Dd S (.str x) (.str x)
  | tup {ds : List D} {ps : List PyData} : DdL S ds ps → Dd S (.tup ds) (.tuple ps)
  | lst {a : Addr} {ds : List D} {ps : List PyData} : LA S a ds → DdL S ds ps → Dd S (.ref a) (.list ps)
inductive DdL (S : Sto) : List D → List PyData → Prop where
  | nil : DdL S [] []
  | cons {d : D} {p : PyData} {ds : List D} {ps : List PyData} : Dd S d p → DdL S ds ps → DdL S (d :: ds) (p :: ps)
end
mutual
theorem Dd.dp {S : Sto} {H : Hp} (s : StO K mg S H) : ∀ {d : D} {p : PyData} {v : V}, Dd S d p → Rp K mg H d v → Dp K H v p
  | _, _, _, .non, r => by cases r; exact .non
  | _, _, _, .bl b, r => by cases r; exact .bl b
  | _, _, _, .int i, r => by cases r; exact .int i
  | _, _, _, .str x, r => by cases r; exact .str x
  | _, _, _, .tup h, r => by
    cases r with
    | tup sq rl => exact .tup sq.sq (DdL.dp s h rl)
  | _, _, _, .lst l h, r => by
    cases r with
    | ref a =>
      obtain ⟨xs, sq, rl⟩ := s.sqL l
      exact .lst sq (DdL.dp s h rl)
theorem DdL.dp {S : Sto} {H : Hp} (s : StO K mg S H) : ∀ {d : List D} {p : List PyData} {v : List V}, DdL S d p → RpL K mg H d v → DpAll K H v p
  | _, _, _, .nil, r => by cases r; exact .nil
  | _, _, _, .cons h t, r => by
    cases r with
    | cons r1 r2 => exact .cons (Dd.dp s h r1) (DdL.dp s t r2)
end
def dEq : D2 := fun x y S Q => (∃ p q, Dd S x p ∧ Dd S y q ∧ SeqAt.shaped p = true ∧ SeqAt.shaped q = true ∧ Q (.bl (PyData.eqv p q)) S) ∨ ∃ a b, x = .str a ∧ y = .str b ∧ Q (.bl (decide (a = b))) S
def dNe : D2 := fun x y S Q => (∃ p q, Dd S x p ∧ Dd S y q ∧ SeqAt.shaped p = true ∧ SeqAt.shaped q = true ∧ Q (.bl (!PyData.eqv p q)) S) ∨ ∃ a b, x = .str a ∧ y = .str b ∧ Q (.bl (!decide (a = b))) S
def rEqA (K : PySem.W.Frag) : R2 := fun x y H Q => rEqD K x y H Q ∨ rEq x y H Q
def rNeA (K : PySem.W.Frag) : R2 := fun x y H Q => rNeD K x y H Q ∨ rNe x y H Q
theorem op_eqA (hu : X.A.units + 64 < cLine) : OpR X (compareOp .Eq) (rEqA X.K) := (op_eqD hu).or op_eq
theorem op_neA (hu : X.A.units + 64 < cLine) : OpR X (compareOp .NotEq) (rNeA X.K) := (op_neD hu).or op_ne
theorem dec_vstr {a b : Str} : decide (V.str a = V.str b) = decide (a = b) := by
  rw [Bool.eq_iff_iff]
  simp
theorem eq_ok : Op2 K mg (rEqA K) dEq := by
  intro S H x y v u P Q s rx ry h k
  rcases h with ⟨p, q, h1, h2, h3, h4, h⟩ | ⟨a, b, rfl, rfl, h⟩
  · exact .inl ⟨p, q, h1.dp s rx, h2.dp s ry, h3, h4, k.now s (.bl _) h⟩
  · cases rx; cases ry
    exact .inr ⟨rfl, by rw [dec_vstr]; exact k.now s (.bl _) h⟩
theorem ne_ok : Op2 K mg (rNeA K) dNe := by
  intro S H x y v u P Q s rx ry h k
  rcases h with ⟨p, q, h1, h2, h3, h4, h⟩ | ⟨a, b, rfl, rfl, h⟩
  · exact .inl ⟨p, q, h1.dp s rx, h2.dp s ry, h3, h4, k.now s (.bl _) h⟩
  · cases rx; cases ry
    exact .inr ⟨rfl, by rw [dec_vstr]; exact k.now s (.bl _) h⟩
def dCmpI (f : Int → Int → Bool) : D2 := fun x y S Q => match x, y with
  | .int i, .int j => Q (.bl (f i j)) S
  | _, _ => False
theorem cmpI_ok (f : Int → Int → Bool) : Op2 K mg (rI0 fun i j => .bl (f i j)) (dCmpI f) := by
  intro S H x y v u P Q s rx ry h k
  cases rx <;> cases ry <;> first
    | exact h.elim
    | exact ⟨_, _, rfl, rfl, k.now s (.bl _) h⟩
def dIs (neg : Bool) : D2 := fun x y S Q => match x, y with
  | .bl a, .bl b => Q (.bl (if neg then !decide (a = b) else decide (a = b))) S
  | .non, .non => Q (.bl (!neg)) S
  | .bl _, .non => Q (.bl neg) S
  | .int _, .non => Q (.bl neg) S
  | .str _, .non => Q (.bl neg) S
  | .tup _, .non => Q (.bl neg) S
  | .ref _, .non => Q (.bl neg) S
  | _, _ => False
def rIsAll (neg : Bool) : R2 := fun x y H Q => (y = .non ∧ Q (.bl (if neg then !decide (x = .non) else decide (x = .non))) H) ∨ ∃ a b, x = .bl a ∧ y = .bl b ∧ Q (.bl (if neg then !decide (a = b) else decide (a = b))) H
theorem op_isAll : OpR X (compareOp .Is) (rIsAll false) := op_isN.or op_isBl
theorem op_isNotAll : OpR X (compareOp .IsNot) (rIsAll true) := op_notN.or op_notBl
theorem is_ok (neg : Bool) : Op2 K mg (rIsAll neg) (dIs neg) := by
  intro S H x y v u P Q s rx ry h k
  cases rx <;> cases ry <;> first
    | exact h.elim
    | exact .inr ⟨_, _, rfl, rfl, k.now s (.bl _) h⟩
    | (refine .inl ⟨rfl, k.now s (.bl _) ?_⟩; cases neg <;> exact h)
theorem atI_rp {H : Hp} {ds : List D} {vs : List V} {i : Int} {d : D} (r : RpL K mg H ds vs) (h : atI ds i = some d) : ∃ v, atI vs i = some v ∧ Rp K mg H d v := by
  unfold atI at h ⊢
  rw [← r.length]
  cases e : ixN ds.length i with
  | none => rw [e] at h; cases h
  | some j =>
    rw [e] at h
    exact r.get h
def dIx : D2 := fun x y S Q => match x, y with
  | .tup ds, .int i => ∃ d, atI ds i = some d ∧ Q d S
  | .ref a, .int i => ∃ ds d, LA S a ds ∧ atI ds i = some d ∧ Q d S
  | .str z, .int i => ∃ c, z.length ≤ sizeLine ∧ atI z.cps.toList i = some c ∧ Q (.str ⟨#[c]⟩) S
  | _, _ => False
theorem ix_ok : Op2 K mg (rIx K) dIx := by
  intro S H x y v u P Q s rx ry h k
  cases rx <;> cases ry <;> first
    | exact h.elim
    | skip
  · obtain ⟨c, hz, e, q⟩ := h
    exact .inr (.inr ⟨_, _, c, rfl, rfl, hz, e, k.now s (.str _) q⟩)
  · obtain ⟨ds, d, l, e, q⟩ := h
    obtain ⟨xs, sq, rl⟩ := s.sqL l
    obtain ⟨w, e2, rw'⟩ := atI_rp rl e
    exact .inl ⟨_, xs, _, w, rfl, rfl, sq, e2, k.now s rw' q⟩
  · rename_i a xs ds s1 r1 i
    obtain ⟨d, e, q⟩ := h
    obtain ⟨w, e2, rw'⟩ := atI_rp r1 e
    exact .inr (.inl ⟨_, _, _, w, rfl, rfl, s1.sq, e2, k.now s rw' q⟩)
def cutD (xs : List D) (lo hi : Option Int) : List D := (xs.drop (HT.sIx xs.length 0 lo)).take (HT.sIx xs.length xs.length hi - HT.sIx xs.length 0 lo)
theorem cut_rp {H : Hp} {ds : List D} {vs : List V} (r : RpL K mg H ds vs) (lo hi : Option Int) : RpL K mg H (cutD ds lo hi) (cutV vs lo hi) := by
  unfold cutD cutV
  rw [r.length]
  exact (r.drop _).take _
def dSlc : DSl := fun x lo hi S Q => match x with
  | .lw ds => ∀ p, S p = none → Q (.ref p) (up1 S p (.lst (cutD ds lo hi)))
  | .tup ds => Q (.tup (cutD ds lo hi)) S
  | .ref a => ∃ ds, LA S a ds ∧ ∀ p, S p = none → Q (.ref p) (up1 S p (.lst (cutD ds lo hi)))
  | _ => False
theorem sl_ok : OpSl K mg (fun x lo hi H Q => rSlA K x lo hi H Q ∨ rSlL K x lo hi H Q) dSlc := by
  intro S H x v lo hi P Q s rx h k
  cases rx <;> first
    | exact h.elim
    | skip
  · obtain ⟨ds, l, q⟩ := h
    obtain ⟨xs, sq, rl⟩ := s.sqL l
    exact .inr ⟨_, xs, rfl, sq, k.newL s (cut_rp rl lo hi) q⟩
  · rename_i a xs ds s1 r1
    refine .inl ⟨_, _, rfl, s1.sq, fun e => ?_, fun _ => k.newT s (cut_rp r1 lo hi) h⟩
    have ec : cutD ds lo hi = ds := by
      unfold cutD
      rw [r1.length, e.1, e.2, List.drop_zero, Nat.sub_zero, ← r1.length, List.take_length]
    have h' : P (.tup (cutD ds lo hi)) S := h
    rw [ec] at h'
    exact k.now s (.tup s1 r1) h'
  · rename_i a xs ds s1 r1
    exact .inr ⟨_, _, rfl, s1.sq, k.newL s (cut_rp r1 lo hi) h⟩
theorem sl_all : SlR X (fun x lo hi H Q => rSlA X.K x lo hi H Q ∨ rSlL X.K x lo hi H Q) := sl_tupA.or sl_list
def dSetL : D3 := fun x y d S Q => match x, y with
  | .ref a, .int i => ∃ ds j, S a = some (.lst ds) ∧ ixN ds.length i = some j ∧ Q (up1 S a (.lst (ds.set j d)))
  | _, _ => False
theorem setL_ok : Op3 K mg rSetL dSetL := by
  intro S H x y d v u w P Q s rx ry rd h k
  cases rx <;> cases ry <;> first
    | exact h.elim
    | skip
  obtain ⟨ds, j, ha, e, q⟩ := h
  obtain ⟨xs, h1, rl⟩ := s.lst ha
  refine ⟨_, xs, _, j, rfl, rfl, h1, by rw [← rl.length]; exact e, k _ _ (Tr.wrote ha) (s.wrote ha (.lst (rl.set rd j))) q⟩
theorem pget_list : PGet X (rIxL X.K) := by
  intro pins s σ H x y v u Q I rx ry h
  obtain ⟨p, xs, i, z, rfl, rfl, hq, he, q⟩ := h
  cases rx
  obtain ⟨t, rfl⟩ := ry
  obtain ⟨its, r, pl, hz⟩ := I.list hq
  obtain ⟨j, h1, h2, h3, h4, h5⟩ := atI_get he
  obtain ⟨w, ew, rw'⟩ := r.get h2
  have hl := r.length
  have hn := line63
  have fin : EP X pins σ Q w s := ⟨z, H, I, rw', q⟩
  by_cases h0 : 0 ≤ i
  · have hj : i.toNat = j := by
      rw [seqIndex_of h0 h5] at h1
      exact Option.some.inj h1
    exact wpAny_getItem_list pl.isList h0 (by omega) (by rw [hj]; simpa using ew) fin
  · have hj : (i + (its.toArray.size : Int)).toNat = j := by
      rw [seqIndex_neg (by omega) h4] at h1
      rw [List.size_toArray, ← hl]
      exact Option.some.inj h1
    exact wpAny_getItem_list_neg pl.isList (by omega) (by rw [List.size_toArray] <;> omega) (by omega) (by rw [hj]; simpa using ew) fin
def dIxL : D2 := fun x y S Q => match x, y with
  | .ref a, .int i => ∃ ds d, LA S a ds ∧ atI ds i = some d ∧ Q d S
  | _, _ => False
theorem ixL_ok : Op2 K mg (rIxL K) dIxL := by
  intro S H x y v u P Q s rx ry h k
  cases rx <;> cases ry <;> first
    | exact h.elim
    | skip
  obtain ⟨ds, d, l, e, q⟩ := h
  obtain ⟨xs, sq, rl⟩ := s.sqL l
  obtain ⟨w, e2, rw'⟩ := atI_rp rl e
  exact ⟨_, xs, _, w, rfl, rfl, sq, e2, k.now s rw' q⟩
def dAppend : DM := fun x vs S Q => match x, vs with
  | .ref a, [y] => ∃ ds, S a = some (.lst ds) ∧ ds.length < sizeLine ∧ Q .non (up1 S a (.lst (ds ++ [y])))
  | _, _ => False
theorem RpL.o1 {H : Hp} {d : D} {vs : List V} (r : RpL K mg H [d] vs) : ∃ v, vs = [v] ∧ Rp K mg H d v := by
  cases r with | cons r t => cases t; exact ⟨_, rfl, r⟩
theorem RpL.o2 {H : Hp} {d e : D} {vs : List V} (r : RpL K mg H [d, e] vs) : ∃ v w, vs = [v, w] ∧ Rp K mg H d v ∧ Rp K mg H e w := by
  cases r with | cons r t => obtain ⟨w, rfl, q⟩ := RpL.o1 t; exact ⟨_, _, rfl, r, q⟩
theorem append_ok : OpM K mg rAppend dAppend := by
  intro S H x xs v vs P Q s rx rxs h k
  cases rx <;> first
    | exact h.elim
    | skip
  match xs, h, rxs with
  | [], h, _ => exact h.elim
  | [y], h, rxs =>
    obtain ⟨w, rfl, ry⟩ := rxs.o1
    obtain ⟨ds, ha, hl, q⟩ := h
    obtain ⟨us, h1, rl⟩ := s.lst ha
    exact ⟨_, us, w, rfl, rfl, h1, by rw [← rl.length]; exact hl, k _ _ _ _ (Tr.wrote ha) (s.wrote ha (.lst (rl.append (.one ry)))) .non q⟩
  | _ :: _ :: _, h, _ => exact h.elim
def dExtend : DM := fun x vs S Q => match x, vs with
  | .ref a, [.ref b] => ∃ ds es, S a = some (.lst ds) ∧ S b = some (.lst es) ∧ ds.length + es.length ≤ sizeLine ∧ Q .non (up1 S a (.lst (ds ++ es)))
  | _, _ => False
theorem extend_inv {x : D} {vs : List D} {S : Sto} {Q : DQ} (h : dExtend x vs S Q) : ∃ a b ds es, x = .ref a ∧ vs = [.ref b] ∧ S a = some (.lst ds) ∧ S b = some (.lst es) ∧ ds.length + es.length ≤ sizeLine ∧ Q .non (up1 S a (.lst (ds ++ es))) := by
  unfold dExtend at h
  split at h
  · obtain ⟨ds, es, h⟩ := h
    exact ⟨_, _, ds, es, rfl, rfl, h⟩
  · exact h.elim
theorem extend_ok : OpM K mg rExtend dExtend := by
  intro S H x xs v vs P Q s rx rxs h k
  obtain ⟨a, b, ds, es, rfl, rfl, ha, hb, hl, q⟩ := extend_inv h
  cases rx
  obtain ⟨w, rfl, ry⟩ := rxs.o1
  cases ry
  obtain ⟨us, h1, r1⟩ := s.lst ha
  obtain ⟨ws, h2, r2⟩ := s.lst hb
  exact ⟨_, _, us, ws, rfl, rfl, h1, h2, by rw [← r1.length, ← r2.length]; exact hl, k _ _ _ _ (Tr.wrote ha) (s.wrote ha (.lst (r1.append r2))) .non q⟩
end
end DL
set_option Elab.async false
set_option linter.all false
set_option maxRecDepth 100000
set_option maxHeartbeats 4000000
namespace DL
open PySem PySem.Spec PyProof.Rows
section
variable {prog : Program} {w : World} {A : Around} {E : Value → Shared → Prop} {s : Shared} {z TI TO T i1 i2 : Addr} {fp1 fp2 : List Addr} {n1 n2 i : Nat} {P1 P2 : Nat → Value → Prop} {St1 St2 : Nat → Heap → Prop} {f : Bool} {oT : Obj}
theorem heldD_item {Q : Value → Shared → Prop} (S : ZipSep2 z TI TO i1 i2 fp1 fp2) (D1 : Draws prog w A i1 fp1 n1 P1 St1) (D2 : Draws prog w A i2 fp2 n2 P2 St2)
    (hz : IsZipHeld s.heap z TI TO T f) (hT : s.heap.get? T = some oT) (hTI : IsTupOf2 s.heap TI (.ref i1) (.ref i2)) (st1 : St1 i s.heap) (st2 : St2 i s.heap) (hlt1 : i < n1) (hlt2 : i < n2)
    (hQ : ∀ x1 x2 h' tk, P1 i x1 → P2 i x2 → IsZipHeld h' z TI TO T true → St1 (i + 1) h' → St2 (i + 1) h' → IsTupOf2 h' s.heap.objs.size x1 x2 → h'.objs.size = s.heap.objs.size + 1 →
      (∀ c o, c ≠ z → c ≠ i1 → c ≠ i2 → s.heap.get? c = some o → h'.get? c = some o) → Q (.ref s.heap.objs.size) { s with heap := h', toks := tk }) :
    wpAny (model prog w) A (Builtin.«zip.__next__» ⟨[.ref z], []⟩) (fun fin s' => ∃ v, fin = .done (.ret v) ∧ Q v s') E s := by
  obtain ⟨hp, g, d, tk0, os⟩ := s
  show wpAny _ _ (field (.ref z) 2 >>= _) _ _ _
  refine wpAny_bind (wpAny_field hz rfl (x := .bool false) rfl ?_)
  show wpAny _ _ (field (.ref z) 3 >>= _) _ _ _
  refine wpAny_bind (wpAny_field hz rfl (x := .ref TI) rfl ?_)
  refine wpAny_bind (wpAny_seqItems hTI rfl ?_)
  show wpAny _ _ (Builtin.SmallTypes.ownedTupleIsFree (.ref z) >>= _) _ _ _
  refine wpAny_bind (wpAny_tupleHeld_zip hz hT fun h1 hz1 hs1 => ?_)
  replace hs1 : Heap.SameBut z hp h1 := hs1
  simp only [Bool.false_eq_true, if_false]
  refine wpAny_bind ?_
  rw [← Array.forIn_toList]
  simp only [List.forIn_cons, List.forIn_nil]
  refine wpAny_bind (wpAny_bind (wpAny_holding ?_))
  show wpAny _ _ (Builtin.SmallTypes.nextOf (.ref i1) >>= _) _ _ ⟨h1, g, d, tk0, os⟩
  refine wpAny_bind (D1.item i _ _ _ hlt1 (D1.over st1 hs1 S.zf1) fun x1 h2 tk1 hx1 sn1 hs2 => wpAny_pure ?_)
  replace hs2 : Heap.SameBut i1 h1 h2 := hs2
  refine wpAny_pure ?_
  refine wpAny_bind (wpAny_bind (wpAny_holding ?_))
  show wpAny _ _ (Builtin.SmallTypes.nextOf (.ref i2) >>= _) _ _ ⟨h2, g, d, tk1, os⟩
  refine wpAny_bind (D2.item i _ _ _ hlt2 (D2.over (D2.over st2 hs1 S.zf2) hs2 S.sep1_2) fun x2 h3 tk2 hx2 sn2 hs3 => wpAny_pure ?_)
  replace hs3 : Heap.SameBut i2 h2 h3 := hs3
  refine wpAny_pure (wpAny_pure ?_)
  show wpAny _ _ (newTuple [x1, x2] >>= _) _ _ ⟨h3, g, d, tk2, os⟩
  refine wpAny_bind (wpAny_newTuple ?_)
  have hsz : h3.objs.size = hp.objs.size := by rw [hs3.1, hs2.1, hs1.1]
  have hz3 : IsZipHeld h3 z TI TO T true := hs3.extBut _ _ S.zi2 (hs2.extBut _ _ S.zi1 hz1)
  have hk : ∀ c o, c ≠ z → c ≠ i1 → c ≠ i2 → hp.get? c = some o → h3.get? c = some o := fun c o c1 c2 c3 e => hs3.extBut _ _ c3 (hs2.extBut _ _ c2 (hs1.extBut _ _ c1 e))
  have sn1' : St1 (i + 1) h3 := D1.over sn1 hs3 S.sep2_1
  refine wpAny_pure ⟨_, rfl, ?_⟩
  show Q (.ref h3.objs.size) _
  have hpr : IsTupOf2 (h3.push { cls := .type "tuple", data := .seq #[x1, x2] }) h3.objs.size x1 x2 := Heap.get?_push_size _ rfl
  have hz4 : (h3.push { cls := .type "tuple", data := .seq #[x1, x2] }).objs.size = h3.objs.size + 1 := Heap.size_push ..
  rw [hsz] at hpr hz4 ⊢
  exact hQ x1 x2 _ tk2 hx1 hx2 (Heap.get?_push_of_some _ hz3) (D1.frame _ _ _ sn1' fun b _ o e => Heap.get?_push_of_some _ e) (D2.frame _ _ _ sn2 fun b _ o e => Heap.get?_push_of_some _ e) hpr hz4 fun c o c1 c2 c3 e => Heap.get?_push_of_some _ (hk c o c1 c2 c3 e)
theorem heldD_end {Q : Fin → Shared → Prop} (S : ZipSep2 z TI TO i1 i2 fp1 fp2) (D1 : Draws prog w A i1 fp1 n1 P1 St1) (D2 : Draws prog w A i2 fp2 n2 P2 St2)
    (hz : IsZipHeld s.heap z TI TO T f) (hT : s.heap.get? T = some oT) (hTI : IsTupOf2 s.heap TI (.ref i1) (.ref i2)) (st1 : St1 i s.heap) (st2 : St2 i s.heap) (hle1 : i ≤ n1) (hle2 : i ≤ n2) (hend : i = n1 ∨ i = n2)
    (hE : ∀ h' tk e, (∀ c o, c ≠ z → c ≠ i1 → c ≠ i2 → s.heap.get? c = some o → h'.get? c = some o) → (∃ o, h'.get? e = some o ∧ o.cls = .type "StopIteration") → E (.ref e) { s with heap := h', toks := tk }) :
    wpAny (model prog w) A (Builtin.«zip.__next__» ⟨[.ref z], []⟩) Q E s := by
  obtain ⟨hp, g, d, tk0, os⟩ := s
  show wpAny _ _ (field (.ref z) 2 >>= _) _ _ _
  refine wpAny_bind (wpAny_field hz rfl (x := .bool false) rfl ?_)
  show wpAny _ _ (field (.ref z) 3 >>= _) _ _ _
  refine wpAny_bind (wpAny_field hz rfl (x := .ref TI) rfl ?_)
  refine wpAny_bind (wpAny_seqItems hTI rfl ?_)
  show wpAny _ _ (Builtin.SmallTypes.ownedTupleIsFree (.ref z) >>= _) _ _ _
  refine wpAny_bind (wpAny_tupleHeld_zip hz hT fun h1 hz1 hs1 => ?_)
  replace hs1 : Heap.SameBut z hp h1 := hs1
  simp only [Bool.false_eq_true, if_false]
  refine wpAny_bind ?_
  rw [← Array.forIn_toList]
  simp only [List.forIn_cons, List.forIn_nil]
  refine wpAny_bind (wpAny_bind (wpAny_holding ?_))
  show wpAny _ _ (Builtin.SmallTypes.nextOf (.ref i1) >>= _) _ _ ⟨h1, g, d, tk0, os⟩
  by_cases h1n : i = n1
  · subst h1n
    refine wpAny_bind (D1.done _ _ _ (D1.over st1 hs1 S.zf1) fun h2 e hs2 he => ?_)
    exact hE h2 tk0 e (fun c o c1 c2 _ x => hs2 _ _ c2 (hs1.extBut _ _ c1 x)) he
  · have h2n : i = n2 := by omega
    refine wpAny_bind (D1.item i _ _ _ (by omega) (D1.over st1 hs1 S.zf1) fun x1 h2 tk1 hx1 sn1 hs2 => wpAny_pure ?_)
    replace hs2 : Heap.SameBut i1 h1 h2 := hs2
    refine wpAny_pure ?_
    refine wpAny_bind (wpAny_bind (wpAny_holding ?_))
    show wpAny _ _ (Builtin.SmallTypes.nextOf (.ref i2) >>= _) _ _ ⟨h2, g, d, tk1, os⟩
    have st2' := D2.over (D2.over st2 hs1 S.zf2) hs2 S.sep1_2
    subst h2n
    refine wpAny_bind (D2.done _ _ _ st2' fun h3 e hs3 he => ?_)
    exact hE h3 tk1 e (fun c o c1 c2 c3 x => hs3 _ _ c3 (hs2.extBut _ _ c2 (hs1.extBut _ _ c1 x))) he
theorem pyNext_heldD_item {Q : Option Value → Shared → Prop} (S : ZipSep2 z TI TO i1 i2 fp1 fp2) (D1 : Draws prog w A.in1 i1 fp1 n1 P1 St1) (D2 : Draws prog w A.in1 i2 fp2 n2 P2 St2)
    (hz : IsZipHeld s.heap z TI TO T f) (hT : s.heap.get? T = some oT) (hTI : IsTupOf2 s.heap TI (.ref i1) (.ref i2)) (st1 : St1 i s.heap) (st2 : St2 i s.heap) (hlt1 : i < n1) (hlt2 : i < n2)
    (hQ : ∀ x1 x2 h' tk, P1 i x1 → P2 i x2 → IsZipHeld h' z TI TO T true → St1 (i + 1) h' → St2 (i + 1) h' → IsTupOf2 h' s.heap.objs.size x1 x2 → h'.objs.size = s.heap.objs.size + 1 →
      (∀ c o, c ≠ z → c ≠ i1 → c ≠ i2 → s.heap.get? c = some o → h'.get? c = some o) → Q (some (.ref s.heap.objs.size)) { s with heap := h', toks := tk }) :
    wpAny (model prog w) A (pyNext (.ref z)) Q E s := by
  have hTy : s.TypeIs (.ref z) "zip" := ⟨_, hz, rfl⟩
  unfold pyNext
  exact wpAny_bind (wpAny_attempt (wpAny_callSpecial?_slot (name := Str.ofString "__next__") hTy F.slot_zip_next
    (wpAny_call_entry F.slot_zip_next hTy F.entry_zip_next
      (heldD_item S D1 D2 hz hT hTI st1 st2 hlt1 hlt2 fun x1 x2 h' tk y1 y2 b1 d1 d2 b5 b6 b7 => wpAny_pure (hQ x1 x2 h' tk y1 y2 b1 d1 d2 b5 b6 b7)) (F.args_zip_next_1 _))))
theorem pyNext_heldD_end {Q : Option Value → Shared → Prop} (S : ZipSep2 z TI TO i1 i2 fp1 fp2) (D1 : Draws prog w A.in1 i1 fp1 n1 P1 St1) (D2 : Draws prog w A.in1 i2 fp2 n2 P2 St2)
    (hz : IsZipHeld s.heap z TI TO T f) (hT : s.heap.get? T = some oT) (hTI : IsTupOf2 s.heap TI (.ref i1) (.ref i2)) (st1 : St1 i s.heap) (st2 : St2 i s.heap) (hle1 : i ≤ n1) (hle2 : i ≤ n2) (hend : i = n1 ∨ i = n2)
    (hQ : ∀ h' tk, (∀ c o, c ≠ z → c ≠ i1 → c ≠ i2 → s.heap.get? c = some o → h'.get? c = some o) → Q none { s with heap := h', toks := tk }) : wpAny (model prog w) A (pyNext (.ref z)) Q E s := by
  have hTy : s.TypeIs (.ref z) "zip" := ⟨_, hz, rfl⟩
  unfold pyNext
  refine wpAny_bind (wpAny_attempt (wpAny_callSpecial?_slot (name := Str.ofString "__next__") hTy F.slot_zip_next
    (wpAny_call_entry F.slot_zip_next hTy F.entry_zip_next (heldD_end S D1 D2 hz hT hTI st1 st2 hle1 hle2 hend fun h' tk e hk he => ?_) (F.args_zip_next_1 _))))
  obtain ⟨o, ho, hc⟩ := he
  refine wpAny_bind (wpAny_isInstance (T := "StopIteration") (b := true) ⟨o, ho, hc⟩ isSubtype_stop ?_)
  exact wpAny_pure (hQ _ _ hk)
end
def ZSt (h : Heap) (z TI TO i1 i2 S : Addr) (i : Nat) (St1 St2 : Nat → Heap → Prop) : Prop :=
  IsTupOf2 h TI (.ref i1) (.ref i2) ∧ St1 i h ∧ St2 i h ∧
  ((IsZip h z TI TO .none ∧ ∃ a b, IsTupOf2 h TO a b) ∨ ∃ (T : Addr) (f : Bool) (oT : Obj), IsZipHeld h z TI TO T f ∧ h.get? T = some oT ∧ T ≠ z ∧ T ≠ i1 ∧ T ≠ i2 ∧ T ≠ S)
structure ZG (P1 P2 : Nat → Value → Prop) (lo : Addr) (h : Heap) (as : List Addr) : Prop where
  above : ∀ a ∈ as, lo < a
  nd : as.Nodup
  pairs : ∀ (j : Nat) (a : Addr), as[j]? = some a → ∃ x y, P1 j x ∧ P2 j y ∧ h.get? a = some { cls := .type "tuple", data := .seq #[x, y] }
section
variable {prog : Program} {w : World} {A : Around} {E : Value → Shared → Prop} {s : Shared} {R : Result → Shared → Prop} {z TI TO i1 i2 S : Addr} {fp1 fp2 : List Addr} {n1 n2 : Nat} {P1 P2 : Nat → Value → Prop} {St1 St2 : Nat → Heap → Prop}
theorem zl_next {i : Nat} {Q : Option Value → Shared → Prop} (Z : ZipSep2 z TI TO i1 i2 fp1 fp2) (D1 : Draws prog w A.in1 i1 fp1 n1 P1 St1) (D2 : Draws prog w A.in1 i2 fp2 n2 P2 St2) (zs : ZSt s.heap z TI TO i1 i2 S i St1 St2) (hlt1 : i < n1) (hlt2 : i < n2)
    (hS : S < s.heap.objs.size) (hmx : z < s.heap.objs.size ∧ i1 < s.heap.objs.size ∧ i2 < s.heap.objs.size)
    (hQ : ∀ x1 x2 h' tk, P1 i x1 → P2 i x2 → ZSt h' z TI TO i1 i2 S (i + 1) St1 St2 → IsTupOf2 h' s.heap.objs.size x1 x2 → h'.objs.size = s.heap.objs.size + 1 →
      (∀ c o, c ≠ z → c ≠ TO → c ≠ i1 → c ≠ i2 → s.heap.get? c = some o → h'.get? c = some o) → Q (some (.ref s.heap.objs.size)) { s with heap := h', toks := tk }) : wpAny (model prog w) A (pyNext (.ref z)) Q E s := by
  obtain ⟨hTI, st1, st2, ⟨hz, a, b, hTO⟩ | ⟨T, f, oT, hz, hT, _, _, _, _⟩⟩ := zs
  · refine wpAny_pyNext_zipD2_item Z D1 D2 hz hTI hTO st1 st2 hlt1 hlt2 fun x1 x2 h' tk y1 y2 b1 b2 d1 d2 b5 b6 hk => ?_
    exact hQ x1 x2 h' tk y1 y2 ⟨hk _ _ Z.TIz Z.TITO Z.TIi1 Z.TIi2 hTI, d1, d2, .inr ⟨_, false, _, b1, b5, Nat.ne_of_gt hmx.1, Nat.ne_of_gt hmx.2.1, Nat.ne_of_gt hmx.2.2, Nat.ne_of_gt hS⟩⟩ b5 b6 hk
  · refine pyNext_heldD_item Z D1 D2 hz hT hTI st1 st2 hlt1 hlt2 fun x1 x2 h' tk y1 y2 b1 d1 d2 b5 b6 hk => ?_
    exact hQ x1 x2 h' tk y1 y2 ⟨hk _ _ Z.TIz Z.TIi1 Z.TIi2 hTI, d1, d2, .inr ⟨T, true, oT, b1, hk _ _ (by assumption) (by assumption) (by assumption) hT, by assumption, by assumption, by assumption, by assumption⟩⟩ b5 b6 fun c o c1 _ c3 c4 e => hk c o c1 c3 c4 e
theorem zl_end {i : Nat} {Q : Option Value → Shared → Prop} (Z : ZipSep2 z TI TO i1 i2 fp1 fp2) (D1 : Draws prog w A.in1 i1 fp1 n1 P1 St1) (D2 : Draws prog w A.in1 i2 fp2 n2 P2 St2) (zs : ZSt s.heap z TI TO i1 i2 S i St1 St2) (hle1 : i ≤ n1) (hle2 : i ≤ n2) (hend : i = n1 ∨ i = n2)
    (hQ : ∀ h' tk, (∀ c o, c ≠ z → c ≠ TO → c ≠ i1 → c ≠ i2 → s.heap.get? c = some o → h'.get? c = some o) → Q none { s with heap := h', toks := tk }) : wpAny (model prog w) A (pyNext (.ref z)) Q E s := by
  obtain ⟨hTI, st1, st2, ⟨hz, a, b, hTO⟩ | ⟨T, f, oT, hz, hT, _, _, _, _⟩⟩ := zs
  · exact wpAny_pyNext_zipD2_end Z D1 D2 hz hTI hTO st1 st2 hle1 hle2 hend hQ
  · exact pyNext_heldD_end Z D1 D2 hz hT hTI st1 st2 hle1 hle2 hend fun h' tk hk => hQ h' tk fun c o c1 _ c3 c4 e => hk c o c1 c3 c4 e
theorem zl_loop (Z : ZipSep2 z TI TO i1 i2 fp1 fp2) (D1 : Draws prog w A.in1.in1 i1 fp1 n1 P1 St1) (D2 : Draws prog w A.in1.in1 i2 fp2 n2 P2 St2) (hSf : S ≠ z ∧ S ≠ TI ∧ S ≠ TO ∧ S ∉ fp1 ∧ S ∉ fp2) (hn : min n1 n2 ≤ sizeLine) (res : Value) {h1 : Heap} {lo : Addr}
    (hR : ∀ h' tk acc c as, (∀ b o, b ≠ S → b ≠ z → b ≠ TO → b ≠ i1 → b ≠ i2 → h1.get? b = some o → h'.get? b = some o) → h'.get? S = some { cls := .type "list", dict := none, data := .seq acc c, slots := #[] } → as.length = min n1 n2 → ZG P1 P2 lo h' as →
      acc.toList = as.map Value.ref → R (.ok (.ret res)) { s with heap := h', toks := tk }) :
    ∀ (k i : Nat) (h : Heap) (tk c : Nat) (acc : Array Value) (as : List Addr), min n1 n2 - i = k → i ≤ min n1 n2 → ZSt h z TI TO i1 i2 S i St1 St2 → (∀ b o, b ≠ S → b ≠ z → b ≠ TO → b ≠ i1 → b ≠ i2 → h1.get? b = some o → h.get? b = some o) →
      h.get? S = some { cls := .type "list", dict := none, data := .seq acc c, slots := #[] } → acc.toList = as.map Value.ref → as.length = i → ZG P1 P2 lo h as → (lo < h.objs.size ∧ S ≤ lo ∧ z ≤ lo ∧ TO ≤ lo ∧ i1 ≤ lo ∧ i2 ≤ lo) →
      codeAny (model prog w) A (.builtin "list.extend.loop" ⟨[.ref S, .ref z, res], []⟩) R { s with heap := h, toks := tk } := by
  obtain ⟨sz, sTI, sTO, sf1, sf2⟩ := hSf
  have si1 : S ≠ i1 := fun e => sf1 (by rw [e]; exact Z.mem1)
  have si2 : S ≠ i2 := fun e => sf2 (by rw [e]; exact Z.mem2)
  intro k
  induction k with
  | zero =>
    intro i h tk c acc as hk hi hst hkeep hS hacc hal hG ⟨l0, l1, l2, l3, l4, l5⟩
    refine codeAny_builtin PySem.F.entry_extend_loop ?_
    rw [Around.under_plainId PySem.F.plain_extend_loop _]
    show wpAny _ A.in1 (pyNext (.ref z) >>= _) _ _ _
    refine wpAny_bind (zl_end (s := { s with heap := h, toks := tk }) (A := A.in1) Z D1 D2 hst (by omega) (by omega) (by omega) fun h' tk' he => ?_)
    refine wpAny_pure (hR h' tk' acc c as (fun b o c1 c2 c3 c4 c5 e => he b o c2 c3 c4 c5 (hkeep b o c1 c2 c3 c4 c5 e)) (he S _ sz sTO si1 si2 hS) (by omega) ⟨hG.above, hG.nd, fun j a hj => ?_⟩ hacc)
    obtain ⟨x, y, p1, p2, e3⟩ := hG.pairs j a hj
    have ha : lo < a := hG.above a (List.mem_of_getElem? hj)
    have nn : ∀ b : Addr, b ≤ lo → a ≠ b := fun b hb => Nat.ne_of_gt (Nat.lt_of_le_of_lt hb ha)
    exact ⟨x, y, p1, p2, he a _ (nn z l2) (nn TO l3) (nn i1 l4) (nn i2 l5) e3⟩
  | succ k ih =>
    intro i h tk c acc as hk hi hst hkeep hS hacc hal hG ⟨l0, l1, l2, l3, l4, l5⟩
    have hlt : i < min n1 n2 := by omega
    have hsz : acc.size = i := by rw [← Array.length_toList, hacc, List.length_map, hal]
    have hSl : S < h.objs.size := Heap.lt_size hS
    refine codeAny_builtin PySem.F.entry_extend_loop ?_
    rw [Around.under_plainId PySem.F.plain_extend_loop _]
    show wpAny _ A.in1 (pyNext (.ref z) >>= _) _ _ _
    refine wpAny_bind (zl_next (s := { s with heap := h, toks := tk }) (A := A.in1) (S := S) Z D1 D2 hst (by omega) (by omega) hSl ⟨Nat.lt_of_le_of_lt l2 l0, Nat.lt_of_le_of_lt l4 l0, Nat.lt_of_le_of_lt l5 l0⟩ fun x1 x2 h' tk' y1 y2 hst' ht hz hkp => ?_)
    dsimp only at ht hz hkp ⊢
    have hS' := hkp S _ sz sTO si1 si2 hS
    have up : ∀ b o, b ≠ S → h'.get? b = some o → (h'.update S (Obj.mapSeq (·.push (Value.ref h.objs.size)))).get? b = some o := fun b o hb e => (Heap.get?_update_other _ _ (Ne.symm hb)).trans e
    have hst'' : ZSt (h'.update S (Obj.mapSeq (·.push (Value.ref h.objs.size)))) z TI TO i1 i2 S (i + 1) St1 St2 := by
      obtain ⟨q1, q2, q3, q4⟩ := hst'
      refine ⟨up _ _ sTI.symm q1, D1.frame _ _ _ q2 fun b hb o e => up b o (fun q => sf1 (by rw [← q]; exact hb)) e, D2.frame _ _ _ q3 fun b hb o e => up b o (fun q => sf2 (by rw [← q]; exact hb)) e, ?_⟩
      rcases q4 with ⟨g1, a, b, g2⟩ | ⟨T, f, oT, g1, g2, c1, c2, c3, c4⟩
      · exact .inl ⟨up _ _ sz.symm g1, a, b, up _ _ sTO.symm g2⟩
      · exact .inr ⟨T, f, oT, up _ _ sz.symm g1, up _ _ c4 g2, c1, c2, c3, c4⟩
    show wpAny _ A.in1 (updateSeq S (·.push (Value.ref h.objs.size)) >>= _) _ _ _
    refine wpAny_bind ?_
    refine wpAny_updateSeq hS' rfl (wpAny_pure ⟨plainId_quiet PySem.F.plain_extend_loop _, ih (i + 1) _ tk' _ (acc.push (Value.ref h.objs.size)) (as ++ [h.objs.size]) (by omega) hlt hst''
      (fun b o c1 c2 c3 c4 c5 e => up b o c1 (hkp b o c2 c3 c4 c5 (hkeep b o c1 c2 c3 c4 c5 e))) (Heap.get?_update_self _ hS' rfl) (by rw [Array.toList_push, hacc, List.map_append]; rfl) (by rw [List.length_append, hal]; rfl) ⟨?_, ?_, ?_⟩ ?_⟩) (by rw [hsz]; omega) (by show (acc.push (Value.ref h.objs.size)).size ≤ sizeLine + 1; rw [Array.size_push, hsz]; omega)
    · intro a ha
      rcases List.mem_append.mp ha with ha | ha
      · exact hG.above a ha
      · rw [List.mem_singleton.mp ha]; exact l0
    · refine List.nodup_append.mpr ⟨hG.nd, by simp, fun a ha b hb => ?_⟩
      rw [List.mem_singleton.mp hb]
      obtain ⟨j, hj⟩ := List.mem_iff_getElem?.mp ha
      obtain ⟨x, y, _, _, e3⟩ := hG.pairs j a hj
      exact Nat.ne_of_lt (Heap.lt_size e3)
    · intro j b hj
      rcases Nat.lt_trichotomy j as.length with g1 | g1 | g1
      · rw [List.getElem?_append_left g1] at hj
        obtain ⟨x, y, p1, p2, e3⟩ := hG.pairs j b hj
        have hb : lo < b := hG.above b (List.mem_of_getElem? hj)
        have nn : ∀ q : Addr, q ≤ lo → b ≠ q := fun q hq => Nat.ne_of_gt (Nat.lt_of_le_of_lt hq hb)
        exact ⟨x, y, p1, p2, up b _ (nn S l1) (hkp b _ (nn z l2) (nn TO l3) (nn i1 l4) (nn i2 l5) e3)⟩
      · subst g1
        have hb : h.objs.size = b := by simpa using hj
        subst hb
        exact ⟨x1, x2, by rw [hal]; exact y1, by rw [hal]; exact y2, up _ _ (Nat.ne_of_gt hSl) ht⟩
      · have hnone : (as ++ [h.objs.size])[j]? = none := List.getElem?_eq_none (by rw [List.length_append, List.length_singleton]; omega)
        rw [hnone] at hj; cases hj
    · have e : (h'.update S (Obj.mapSeq (·.push (Value.ref h.objs.size)))).get? h.objs.size = _ := up _ _ (Nat.ne_of_gt hSl) ht
      exact ⟨Nat.lt_trans l0 (Heap.lt_size e), l1, l2, l3, l4, l5⟩
end
end DL
set_option Elab.async false
set_option linter.all false
set_option maxRecDepth 100000
set_option maxHeartbeats 4000000
namespace DL
open PySem PySem.Spec PyProof.Rows
theorem zip_no_len : typeLookup (.type "zip") "__len__" = pure none := am_miss_of_fast (by decide +kernel)
theorem zip_no_hint : typeLookup (.type "zip") "__length_hint__" = pure none := am_miss_of_fast (by decide +kernel)
section
variable {prog : Program} {w : World} {A : Around} {E : Value → Shared → Prop} {s : Shared} {R : Result → Shared → Prop} {z TI TO i1 i2 S : Addr} {fp1 fp2 : List Addr} {n1 n2 : Nat} {P1 P2 : Nat → Value → Prop} {St1 St2 : Nat → Heap → Prop}
theorem zip_hint (hT : s.TypeIs (.ref z) "zip") {Q : Bool → Shared → Prop} (h : Q true s) : wpAny (model prog w) A (Builtin.List.listLengthHint (.ref z)) Q E s := by
  unfold Builtin.List.listLengthHint
  refine wpAny_bind (wpAny_specialOf hT zip_no_len ?_)
  refine wpAny_ite_split (fun hab => absurd hab (by decide)) (fun _ => ?_)
  refine wpAny_ite_split (fun hab => absurd hab (by decide)) (fun _ => ?_)
  refine wpAny_bind (wpAny_specialOf hT zip_no_hint ?_)
  exact wpAny_pure h
structure ZNew (h : Heap) (z TI TO i1 i2 : Addr) (St1 St2 : Nat → Heap → Prop) : Prop where
  zip : IsZip h z TI TO .none
  ti : IsTupOf2 h TI (.ref i1) (.ref i2)
  to : IsTupOf2 h TO .none .none
  s1 : St1 0 h
  s2 : St2 0 h
theorem zl_extend (Z : ZipSep2 z TI TO i1 i2 fp1 fp2) (D1 : Draws prog w A.in1.in1 i1 fp1 n1 P1 St1) (D2 : Draws prog w A.in1.in1 i2 fp2 n2 P2 St2) (zn : ZNew s.heap z TI TO i1 i2 St1 St2)
    (hSf : S ≠ z ∧ S ≠ TI ∧ S ≠ TO ∧ S ∉ fp1 ∧ S ∉ fp2) (hlo : S + 1 = s.heap.objs.size) (hle : z < s.heap.objs.size ∧ TO < s.heap.objs.size ∧ i1 < s.heap.objs.size ∧ i2 < s.heap.objs.size) (res : Value) (c0 : Nat) (hS : s.heap.get? S = some { cls := .type "list", data := .seq #[] c0 })
    (hR : ∀ h' tk acc c as, (∀ b o, b ≠ S → b ≠ z → b ≠ TO → b ≠ i1 → b ≠ i2 → s.heap.get? b = some o → h'.get? b = some o) → h'.get? S = some { cls := .type "list", dict := none, data := .seq acc c, slots := #[] } → as.length = min n1 n2 → ZG P1 P2 S h' as →
      acc.toList = as.map Value.ref → R (.ok (.ret res)) { s with heap := h', toks := tk }) (hn : min n1 n2 ≤ sizeLine) :
    wpAny (model prog w) A.in1 (Builtin.List.listExtendWith (.ref S) (.ref z) res)
      (fun fin s' => match fin with | .done f => R (.ok f) s' | .again c' => c'.quiet = true ∧ codeAny (model prog w) A c' R s') (fun e s' => R (.error e) s') s := by
  have hT : s.TypeIs (.ref z) "zip" := ⟨_, zn.zip, rfl⟩
  have zl : ∀ {a : Addr}, a < s.heap.objs.size → a ≤ S := fun {a} h => Nat.le_of_lt_succ (by rw [← hlo] at h; exact h)
  have key : ∀ (h : Heap) (c1 tk : Nat), (∀ b o, b ≠ S → s.heap.get? b = some o → h.get? b = some o) → s.heap.objs.size ≤ h.objs.size →
      h.get? S = some { cls := .type "list", data := .seq #[] c1 } → codeAny (model prog w) A (.builtin "list.extend.loop" ⟨[.ref S, .ref z, res], []⟩) R { s with heap := h, toks := tk } := by
    intro h c1 tk hk hsz hS1
    have si1 : S ≠ i1 := fun e => hSf.2.2.2.1 (by rw [e]; exact Z.mem1)
    have si2 : S ≠ i2 := fun e => hSf.2.2.2.2 (by rw [e]; exact Z.mem2)
    have zs : ZSt h z TI TO i1 i2 S 0 St1 St2 := ⟨hk _ _ hSf.2.1.symm zn.ti, D1.frame _ _ _ zn.s1 fun b hb o e => hk b o (fun q => hSf.2.2.2.1 (by rw [← q]; exact hb)) e, D2.frame _ _ _ zn.s2 fun b hb o e => hk b o (fun q => hSf.2.2.2.2 (by rw [← q]; exact hb)) e,
      .inl ⟨hk _ _ hSf.1.symm zn.zip, _, _, hk _ _ hSf.2.2.1.symm zn.to⟩⟩
    exact zl_loop (s := s) (h1 := s.heap) (lo := S) Z D1 D2 hSf hn res hR (min n1 n2) 0 h tk c1 #[] [] (Nat.sub_zero _) (Nat.zero_le _) zs (fun b o c1 _ _ _ _ e => hk b o c1 e) hS1 rfl rfl
      ⟨(fun _ ha => nomatch ha), .nil, (fun j a hj => by simp at hj)⟩ ⟨Nat.lt_of_lt_of_le (by rw [← hlo]; exact Nat.lt_succ_self _) hsz, Nat.le_refl _, zl hle.1, zl hle.2.1, zl hle.2.2.1, zl hle.2.2.2⟩
  unfold Builtin.List.listExtendWith
  refine wpAny_bind (wpAny_typeOf (T := "zip") hT ?_)
  have h1 : Builtin.List.listSameRef (.ref S) (.ref z) = false := by simp [Builtin.List.listSameRef, hSf.1]
  have h2 : (Value.type "zip" == Value.type "list") = false := by decide
  have h3 : (Value.type "zip" == Value.type "tuple") = false := by decide
  simp only [h1, h2, h3, Bool.or_false, Bool.false_eq_true, if_false]
  refine wpAny_bind (wpAny_pyIter_zip zn.zip ?_)
  refine wpAny_bind (wpAny_holding (zip_hint hT ?_))
  refine wpAny_ite_split (fun _ => ?_) (fun _ => wpAny_pure ⟨plainId_quiet PySem.F.plain_extend_loop _, key _ c0 _ (fun b o _ e => e) (Nat.le_refl _) hS⟩)
  refine wpAny_bind (wpAny_rule ?_)
  refine wpAny_bind ?_
  show wpAny _ _ (updateSeq S (·.push .none) >>= fun _ => updateSeq S (·.pop)) _ _ _
  refine wpAny_bind (wpAny_updateSeq hS rfl ?_)
  have hS2 := Heap.get?_update_self (Obj.mapSeq (·.push Value.none)) hS rfl
  refine wpAny_updateSeq (hz := by seq_fits) hS2 rfl ?_
  have hS3 := Heap.get?_update_self (Obj.mapSeq (·.pop)) hS2 rfl
  refine wpAny_pure ⟨plainId_quiet PySem.F.plain_extend_loop _, key _ _ _ (fun b o hb e => ?_) ?_ hS3⟩
  · exact (Heap.get?_update_other _ _ (Ne.symm hb)).trans ((Heap.get?_update_other _ _ (Ne.symm hb)).trans e)
  · rw [Heap.size_update, Heap.size_update]; exact Nat.le_refl _
theorem zl_call {Q : Value → Shared → Prop} (Z : ZipSep2 z TI TO i1 i2 fp1 fp2) (D1 : Draws prog w A.in1.in1.in1 i1 fp1 n1 P1 St1) (D2 : Draws prog w A.in1.in1.in1 i2 fp2 n2 P2 St2) (zn : ZNew s.heap z TI TO i1 i2 St1 St2)
    (hle : z < s.heap.objs.size ∧ TI < s.heap.objs.size ∧ TO < s.heap.objs.size ∧ i1 < s.heap.objs.size ∧ i2 < s.heap.objs.size) (hf : (∀ b ∈ fp1, b < s.heap.objs.size) ∧ ∀ b ∈ fp2, b < s.heap.objs.size) (hn : min n1 n2 ≤ sizeLine)
    (hQ : ∀ h' tk acc c as, (∀ b o, b ≠ z → b ≠ TO → b ≠ i1 → b ≠ i2 → s.heap.get? b = some o → h'.get? b = some o) → h'.get? s.heap.objs.size = some { cls := .type "list", dict := none, data := .seq acc c, slots := #[] } → as.length = min n1 n2 → ZG P1 P2 s.heap.objs.size h' as →
      acc.toList = as.map Value.ref → Q (.ref s.heap.objs.size) { s with heap := h', toks := tk }) :
    wpAny (model prog w) A (call (.type "list") [.ref z]) Q E s := by
  refine callType_codes (Q₁ := fun obj s₁ => obj = .ref s.heap.objs.size ∧ s₁ = { s with heap := s.heap.push { cls := .type "list", data := .seq #[] } }) PySem.F.called_list (PySem.F.typeCall_list_1 _) PySem.F.entry_list_init
    (code_list_new _ ⟨rfl, rfl⟩) fun obj s₁ h₁ => ?_
  obtain ⟨rfl, rfl⟩ := h₁
  have hS : (s.heap.push { cls := .type "list", data := .seq #[] }).get? s.heap.objs.size = some { cls := .type "list", data := .seq #[] } := Heap.get?_push_size _ rfl
  have gt : ∀ {a : Addr}, a < s.heap.objs.size → s.heap.objs.size ≠ a := fun h => Nat.ne_of_gt h
  refine ⟨⟨_, hS, rfl⟩, PySem.F.args_list_init_2 _ _, ?_⟩
  show wpAny _ _ (do let old ← Builtin.List.listItems (.ref s.heap.objs.size); Builtin.List.listUpdate (.ref s.heap.objs.size) (fun _ => #[]); letGo old.toList.reverse; Builtin.List.listExtendWith (.ref s.heap.objs.size) (.ref z) .none) _ _ _
  refine wpAny_bind ?_
  unfold Builtin.List.listItems
  refine wpAny_bind (wpAny_seqItems hS rfl (wpAny_pure ?_))
  show wpAny _ _ (updateSeq s.heap.objs.size (fun _ => #[]) >>= fun _ => letGo (#[] : Array Value).toList.reverse >>= fun _ => Builtin.List.listExtendWith (.ref s.heap.objs.size) (.ref z) .none) _ _ _
  refine wpAny_bind (wpAny_updateSeq hS rfl ?_)
  have hS2 := Heap.get?_update_self (Obj.mapSeq (fun _ => (#[] : Array Value))) hS rfl
  have oth : ∀ b o, b ≠ s.heap.objs.size → s.heap.get? b = some o → ((s.heap.push { cls := .type "list", data := .seq #[] }).update s.heap.objs.size (Obj.mapSeq (fun _ => (#[] : Array Value)))).get? b = some o :=
    fun b o hb e => (Heap.get?_update_other _ _ (Ne.symm hb)).trans (Heap.get?_push_of_some _ e)
  have lt : ∀ {b o}, s.heap.get? b = some o → b ≠ s.heap.objs.size := fun e => Nat.ne_of_lt (Heap.lt_size e)
  have sz : ((s.heap.push { cls := .type "list", data := .seq #[] }).update s.heap.objs.size (Obj.mapSeq (fun _ => (#[] : Array Value)))).objs.size = s.heap.objs.size + 1 := by rw [Heap.size_update, Heap.size_push]
  refine wpAny_bind (wpAny_letGo ?_)
  refine zl_extend (A := A.in1) (s := { s with heap := (s.heap.push { cls := .type "list", data := .seq #[] }).update s.heap.objs.size (Obj.mapSeq (fun _ => (#[] : Array Value))) }) (S := s.heap.objs.size) Z D1 D2
    ⟨oth _ _ (lt zn.zip) zn.zip, oth _ _ (lt zn.ti) zn.ti, oth _ _ (lt zn.to) zn.to, D1.frame _ _ _ zn.s1 fun b _ o e => oth b o (lt e) e, D2.frame _ _ _ zn.s2 fun b _ o e => oth b o (lt e) e⟩
    ⟨gt hle.1, gt hle.2.1, gt hle.2.2.1, fun m => Nat.lt_irrefl _ (hf.1 _ m), fun m => Nat.lt_irrefl _ (hf.2 _ m)⟩ sz.symm ?_ .none _ hS2 (fun h' tk acc c as hk hS' hl hG hacc => ?_) hn
  · show z < _ ∧ TO < _ ∧ i1 < _ ∧ i2 < _
    simp only [sz]
    exact ⟨Nat.lt_succ_of_lt hle.1, Nat.lt_succ_of_lt hle.2.2.1, Nat.lt_succ_of_lt hle.2.2.2.1, Nat.lt_succ_of_lt hle.2.2.2.2⟩
  · exact ⟨rfl, hQ h' tk acc c as (fun b o c1 c2 c3 c4 e => hk b o (lt e) c1 c2 c3 c4 (oth b o (lt e) e)) hS' hl hG hacc⟩
end
end DL
set_option Elab.async false
set_option linter.all false
set_option maxRecDepth 100000
set_option maxHeartbeats 4000000
namespace DL
open PySem PySem.Spec PyProof.Rows L2 RZ
def SqK (K : PySem.W.Frag) : Bool → Hp → Addr → List V → Prop
  | false, H, a, xs => SqL K H a xs
  | true, H, a, xs => SqT K H a xs
def IsSq (h : Heap) : Bool → Addr → Array Value → Prop
  | false, a, its => h.IsList a its
  | true, a, its => h.IsTuple a its
def IsIt (h : Heap) : Bool → Addr → Addr → Nat → Prop
  | false, it, a, i => h.IsListIter it a i
  | true, it, a, i => h.IsTupleIter it a i
def itO : Bool → Addr → Obj
  | false, a => { cls := .type "list_iterator", data := .fields #[.ref a, .int 0 0] }
  | true, a => { cls := .type "tuple_iterator", data := .fields #[.ref a, .int 0 0] }
theorem drawsK {prog : Program} {w : World} {A : Around} (hh : A.handled = none) (k : Bool) (it a : Addr) (hne : a ≠ it) (its : Array Value) :
    Draws prog w A it [it, a] its.size (fun i v => its[i]? = some v) (fun i h => IsIt h k it a i ∧ IsSq h k a its) := by
  cases k
  · exact Draws.list hh it a hne its
  · exact Draws.tuple hh it a hne its
theorem beginsK (k : Bool) (a : Addr) (its : Array Value) : Begins (.ref a) (itO k a) fun h => IsSq h k a its := by
  cases k
  · exact begins_list a its
  · exact begins_tuple a its
theorem IsSq.lt {h : Heap} {k : Bool} {a : Addr} {its : Array Value} (q : IsSq h k a its) : a < h.objs.size := by
  cases k
  · obtain ⟨o, e, _⟩ := id q
    exact Heap.lt_size e
  · obtain ⟨o, e, _⟩ := id q
    exact Heap.lt_size e
theorem IsSq.cls {h : Heap} {k : Bool} {a : Addr} {its : Array Value} (q : IsSq h k a its) : ∃ o n, h.get? a = some o ∧ o.data = .seq its n := by
  cases k
  · obtain ⟨o, e, _, n, d⟩ := id q
    exact ⟨o, n, e, d⟩
  · obtain ⟨o, e, _, n, d⟩ := id q
    exact ⟨o, n, e, d⟩
theorem IsIt.cls {h : Heap} {k : Bool} {a it : Addr} {i : Nat} (q : IsIt h k it a i) : ∃ o, h.get? it = some o ∧ o.data = .fields #[.ref a, .int i 0] := by
  cases k
  · obtain ⟨o, e, _, d⟩ := id q
    exact ⟨o, e, d⟩
  · obtain ⟨o, e, _, d⟩ := id q
    exact ⟨o, e, d⟩
theorem IsIt.at {h h' : Heap} {k : Bool} {a it : Addr} {i : Nat} (q : IsIt h k it a i) (hk : ∀ o, h.get? it = some o → h'.get? it = some o) : IsIt h' k it a i := by
  cases k
  · exact Heap.IsListIter.at q hk
  · exact Heap.IsTupleIter.at q hk
theorem IsSq.at {h h' : Heap} {k : Bool} {a : Addr} {its : Array Value} (q : IsSq h k a its) (hk : ∀ o, h.get? a = some o → h'.get? a = some o) : IsSq h' k a its := by
  cases k
  · exact Heap.IsList.at q hk
  · exact Heap.IsTuple.at q hk
theorem IsIt.new {h : Heap} {k : Bool} {a it : Addr} (q : h.get? it = some (itO k a)) : IsIt h k it a 0 := by
  cases k
  · exact ⟨_, q, rfl, rfl⟩
  · exact ⟨_, q, rfl, rfl⟩
section
variable {X : Cx} {pins : List (Addr × Obj)} {σ : L2.St} {H : Hp} {s : Shared}
theorem Inv.sqK {k : Bool} {a : Addr} {xs : List V} (I : Inv X pins σ H s) (h : SqK X.K k H a xs) : ∃ its, Vals xs its ∧ IsSq s.heap k a its.toArray := by
  cases k
  · obtain ⟨its, r, p, _⟩ := I.list h
    exact ⟨its, r, p.isList⟩
  · obtain ⟨its, r, p, _⟩ := I.tuple h
    exact ⟨its, r, p⟩
theorem Inv.sqK_inj {k : Bool} {a : Addr} {xs ys : List V} (I : Inv X pins σ H s) (h : SqK X.K k H a xs) (h' : SqK X.K k H a ys) : xs = ys := by
  cases k
  · exact I.list_inj h h'
  · exact I.tuple_inj h h'
end
def Itek (K : PySem.W.Frag) (k : Bool) (k0 : Int) (a : Addr) : It :=
  ⟨fun i H => ∃ (xs : List V) (x : V), SqK K k H a xs ∧ xs[i]? = some x, fun i H v H' => ∃ T x, v = .ref T ∧ H T = none ∧ H' = upd H T (.tup [.int (k0 + (i : Nat)), x]) ∧ ∀ xs, SqK K k H a xs → xs[i]? = some x, fun i H => ∃ xs : List V, SqK K k H a xs ∧ xs.length = i⟩
theorem turn_enumK {P : Program} {w : World} {K : PySem.W.Frag} {elts : List Expr} {kk : Nat} {tpos : Pos} (k : Bool) (k0 : Int) (a e it : Addr) :
    Turn P w K (.Tuple elts kk tpos) (Itek K k k0 a) [e, it] e (fun i h => (∃ old, IsEnum h e it (k0 + ((i : Nat) : Int)) old) ∧ IsIt h k it a i ∧ e ≠ it) where
  mem := by simp
  obj := fun i h st b hb => by
    obtain ⟨⟨old, he⟩, hit, _⟩ := st
    obtain ⟨o, ho, hd⟩ := hit.cls
    have e' : b = e ∨ b = it := by simpa using hb
    rcases e' with z | z
    · rw [z]; exact ⟨_, he, fun v q => nomatch q⟩
    · rw [z]; exact ⟨o, ho, fun v q => by rw [hd] at q; cases q⟩
  keep := fun i h h' st kp => let ⟨⟨old, he⟩, hi, hne⟩ := st; ⟨⟨old, kp e (by simp) _ he⟩, hi.at fun o q => kp it (by simp) o q, hne⟩
  item := by
    intro X hP hw hK hc i pins s σ H E I hf st hg
    subst hP hw hK
    obtain ⟨⟨old, he⟩, hit, hne⟩ := st
    obtain ⟨xs, x, hq, hx⟩ := hg
    obtain ⟨its, rv, p⟩ := Inv.sqK I hq
    obtain ⟨u, hu, ru⟩ := rv.get hx
    have hel : e < s.heap.objs.size := Heap.lt_size he
    obtain ⟨oi, hoi, hdi⟩ := hit.cls
    have hil : it < s.heap.objs.size := Heap.lt_size hoi
    obtain ⟨oa, na, hoa, hda⟩ := p.cls
    have hai : a ≠ it := fun z => by
      rw [z, hoi] at hoa
      cases hoa
      rw [hda] at hdi; cases hdi
    have hae : e ≠ a := fun z => by
      rw [← z, he] at hoa
      cases hoa
      cases hda
    have hil' : i < its.toArray.size := by
      have := (List.getElem?_eq_some_iff.mp hu).1
      simpa using this
    refine wpAny_pyNext_enum_itemC (drawsK (A := X.A.in1) (prog := X.prog) (w := X.w) (show X.A.in1.handled = none from I.ok.hd hc) k it a hai its.toArray) he ⟨hit, p⟩ hil' hne (by simp [hne, hae]) fun x' h' tk hx' ho hit' hT hsz hk => ?_
    have eu : x' = u := by
      have hx2 : its[i]? = some x' := by simpa using hx'
      rw [hu] at hx2; exact (Option.some.inj hx2).symm
    subst eu
    refine ⟨_, rfl, wpAny_letOwnedTupleGo_enum (s := { s with heap := h', toks := tk + 1 }) ho fun h'' he' sb => ?_⟩
    have hT2 : h''.get? s.heap.objs.size = some { cls := .type "tuple", data := .seq #[.int (k0 + (i : Nat)) tk, x'] } := (sb.2 _ (Nat.ne_of_gt hel)).trans hT
    have new : ObjOk X.prog X.w (upd H s.heap.objs.size (.tup [.int (k0 + (i : Nat)), x])) h'' s.heap.objs.size (.tup [.int (k0 + (i : Nat)), x]) :=
      ⟨by show 2 ≤ sizeLine; decide, [.int (k0 + (i : Nat)) tk, x'], .cons ⟨_, rfl⟩ (.cons ru .nil), ⟨_, hT2, rfl, _, rfl⟩⟩
    have I1 : Inv X pins σ (upd H s.heap.objs.size (.tup [.int (k0 + (i : Nat)), x])) { s with heap := h'', toks := tk + 1 } :=
      I.turnedNew (ch := [e, it]) (fun b ob hb q => (sb.2 b (fun z => hb (by simp [z]))).trans (hk b ob (fun z => hb (by simp [z])) (fun z => hb (by simp [z])) q)) hf (Nat.le_refl _) new
    refine ⟨.ref s.heap.objs.size, _, I1, rfl, ⟨_, x, rfl, I.hok.fresh (Nat.le_refl _), rfl, fun ys hy => by rw [Inv.sqK_inj I hy hq]; exact hx⟩, ⟨⟨x', ?_⟩, IsIt.at hit'.1 fun o q => (sb.2 it (Ne.symm hne)).trans q, hne⟩, fun b hb => ?_⟩
    · have e1 : k0 + ((i + 1 : Nat) : Int) = k0 + (i : Int) + 1 := by omega
      rw [e1]; exact he'
    · have hb' : b < s.heap.objs.size := by
        have e' : b = e ∨ b = it := by simpa using hb
        rcases e' with z | z
        · rw [z]; exact hel
        · rw [z]; exact hil
      rw [upd_ne (Nat.ne_of_lt hb')]
      exact (hf b hb).1
  done := by
    intro X hP hw hK hc i pins s σ H E I hf st hg
    subst hP hw hK
    obtain ⟨⟨old, he⟩, hit, hne⟩ := st
    obtain ⟨xs, hq, hx⟩ := hg
    obtain ⟨its, rv, p⟩ := Inv.sqK I hq
    obtain ⟨f0, f1, f2, f3, f4, f5⟩ := hf it (by simp)
    have hl := rv.length
    obtain ⟨oi, hoi, hdi⟩ := hit.cls
    obtain ⟨oa, na, hoa, hda⟩ := p.cls
    have hai : a ≠ it := fun z => by
      rw [z, hoi] at hoa
      cases hoa
      rw [hda] at hdi; cases hdi
    have ez : i = its.toArray.size := by simp; omega
    rw [ez] at hit
    exact wpAny_pyNext_enum_endD (drawsK (A := X.A.in1) (prog := X.prog) (w := X.w) (show X.A.in1.handled = none from I.ok.hd hc) k it a hai its.toArray) he ⟨hit, p⟩ fun h' eb => ⟨rfl, I.turned (t' := s.toks) (fun b o hb q => eb b o hb q) f0 f1 f3 f4 f5⟩
  self := fun A i s Q E st h => let ⟨⟨_, he⟩, _⟩ := st; wpAny_pyIter_enum he h
set_option maxHeartbeats 1000000 in
theorem meets_enumerate_newB1 {v : Value} {o : Obj} {H : Heap → Prop} (B : Begins v o H) :
    Meets (Builtin.«enumerate.__new__» ⟨[.type "enumerate", v], []⟩) (fun _ R s => H s.heap ∧
      R (.ok (.ret (.ref (s.heap.push o).objs.size))) { s with heap := (s.heap.push o).push { cls := .type "enumerate", data := .fields #[.none, .bool false, .ref s.heap.objs.size, rawInt 0, .none, .none] } }) :=
  .of_wp fun prog w A R s h => by
    obtain ⟨hp, g, d, tk, os⟩ := s; obtain ⟨h1, h⟩ := h
    have hsub := sub_enumerate
    have q1 : ∀ {A' : Around} {E : Value → Shared → Prop} {Q : Value → Shared → Prop}, Q (.ref hp.objs.size) ⟨hp.push o, g, d, tk, os⟩ → wpAny (model prog w) A' (pyIter v) Q E ⟨hp, g, d, tk, os⟩ :=
      fun q => B.iter prog w _ _ ⟨hp, g, d, tk, os⟩ _ h1 q
    wp_walk using q1
    refine wpAny_stack_any fun st => wpAny_pure ?_
    split
    · rename_i c _ _ _ _ _
      cases (c == Value.type "enumerate")
      · wp_walk using q1
        exact ⟨_, rfl, h⟩
      · wp_walk using q1
        exact ⟨_, rfl, h⟩
    · wp_walk using q1
      exact ⟨_, rfl, h⟩
section
variable {prog : Program} {w : World} {A : Around} {E : Value → Shared → Prop} {s : Shared}
theorem enum_begins1 {v : Value} {o : Obj} {H : Heap → Prop} {Q : Value → Shared → Prop} (B : Begins v o H) (h1 : H s.heap)
    (h : ∀ h', IsEnum h' (s.heap.objs.size + 1) s.heap.objs.size 0 .none → h'.get? s.heap.objs.size = some o → h'.objs.size = s.heap.objs.size + 2 →
      (∀ b o, s.heap.get? b = some o → h'.get? b = some o) → Q (.ref (s.heap.objs.size + 1)) { s with heap := h' }) :
    wpAny (model prog w) A (call (.type "enumerate") [v]) Q E s := by
  refine callType_new F.called_enumerate (by decide) (F.typeCall_enumerate_1 _) (F.newCall_enumerate_1 _) (fun obj => F.args_object_init_2 obj _) F.entry_enumerate_new
    (meets_enumerate_newB1 B) ⟨h1, ?_⟩
  have hz : (s.heap.push o).objs.size = s.heap.objs.size + 1 := Heap.size_push ..
  show _ ∧ _
  rw [hz]
  have he : IsEnum ((s.heap.push o).push { cls := .type "enumerate", data := .fields #[.none, .bool false, .ref s.heap.objs.size, rawInt 0, .none, .none] }) (s.heap.objs.size + 1) s.heap.objs.size 0 .none := by
    have := Heap.get?_push_size (s.heap.push o) (o := { cls := .type "enumerate", data := .fields #[.none, .bool false, .ref s.heap.objs.size, rawInt 0, .none, .none] }) rfl
    rw [hz] at this; exact this
  refine ⟨⟨_, he, rfl⟩, h _ he (Heap.get?_push_of_some _ (Heap.get?_push_size _ B.free)) (by rw [Heap.size_push, hz]) fun b o x => Heap.get?_push_of_some _ (Heap.get?_push_of_some _ x)⟩
end
def iEnumK (K : PySem.W.Frag) (ta : TA) : TI := fun σ H R => ta σ H fun vs H1 => ∃ k a xs, vs = [.ref a] ∧ SqK K k H1 a xs ∧ R (Itek K k 0 a) H1
theorem pi_enumK {X : Cx} {e : Expr} {ta : TA} {p pos tpos : Pos} {elts : List Expr} {kk : Nat} (hg : Gl X "enumerate") (hm : X.mg "enumerate" = none) (ha : PA X [e] ta) (hs : starEach [e] X.env = [(false, eval e X.env)]) :
    PI X (.Tuple elts kk tpos) (.Call (.Name "enumerate" p) [e] [] pos) (iEnumK X.K ta) := by
  refine ⟨fun pins s σ H R I h => ?_⟩
  refine Call_ (ld_blt I hg hm boot_enumerate (PyProof.Rows.callWith_type1 (thn (ha.run pos pins s σ H _ I h) fun us s1 ⟨vs, H1, I1, r1, q1⟩ => ?_) hs rfl))
  obtain ⟨k, a, xs, ex, hq, q⟩ := q1
  subst ex
  cases r1 with
  | cons r rr =>
    cases rr
    cases r
    obtain ⟨its, rv, p'⟩ := Inv.sqK I1 hq
    refine enum_begins1 (beginsK k a its.toArray) p' fun h' he hit hsz hk => wpAny_pyIter_enum he ?_
    have I2 : Inv X pins σ H1 { s1 with heap := h' } := I1.kept (t' := s1.toks) hk
    refine ⟨s1.heap.objs.size + 1, [s1.heap.objs.size + 1, s1.heap.objs.size], _, _, H1, rfl, I2, turn_enumK k 0 a (s1.heap.objs.size + 1) s1.heap.objs.size, ⟨⟨.none, he⟩, IsIt.new hit, Nat.succ_ne_self _⟩, fun b hb => ?_, q⟩
    have e' : b = s1.heap.objs.size + 1 ∨ b = s1.heap.objs.size := by simpa using hb
    have hle : s1.heap.objs.size ≤ b := by
      rcases e' with z | z
      · rw [z]; exact Nat.le_add_right _ _
      · rw [z]; exact Nat.le_refl _
    exact I1.fpOk hle (I1.hok.fresh hle)
def enumD (k0 : Int) (xs : List D) : List D := xs.mapIdx fun i x => D.tup [.int (k0 + (i : Nat)), x]
theorem enumD_length {k0 : Int} {xs : List D} : (enumD k0 xs).length = xs.length := List.length_mapIdx
theorem enumD_get {k0 : Int} {xs : List D} {i : Nat} {x : D} (h : xs[i]? = some x) : (enumD k0 xs)[i]? = some (.tup [.int (k0 + (i : Nat)), x]) := by
  unfold enumD
  rw [List.getElem?_mapIdx, h]; rfl
def sqD (x : D) (S : Sto) (P : List D → (Sto → Prop) → Prop) : Prop := match x with
  | .tup ds => P ds (fun _ => True)
  | .ref a => ∃ ds, LA S a ds ∧ P ds (fun S' => LA S' a ds)
  | _ => False
structure SqO (K : PySem.W.Frag) (mg : Str → Option Value) (k : Bool) (a : Addr) (ds : List D) (chk : Sto → Prop) (S1 : Sto) (H1 : Hp) : Prop where
  sq : ∀ S H, Tr S1 H1 S H → StO K mg S H → chk S → ∃ xs, SqK K k H a xs ∧ RpL K mg H ds xs
  now : chk S1
theorem sqD_of {K : PySem.W.Frag} {mg : Str → Option Value} {S1 : Sto} {H1 : Hp} {x : D} {v : V} {P : List D → (Sto → Prop) → Prop} (s1 : StO K mg S1 H1) (r : Rp K mg H1 x v) (h : sqD x S1 P) :
    ∃ k a ds chk, v = .ref a ∧ SqO K mg k a ds chk S1 H1 ∧ P ds chk := by
  cases r with
  | ref a =>
    obtain ⟨ds, l, h⟩ := h
    exact ⟨false, a, ds, _, rfl, ⟨fun S H t s l => s.sqL l, l⟩, h⟩
  | tup sq rl => exact ⟨true, _, _, _, rfl, ⟨fun S H t s _ => ⟨_, (t.sqT s1 _ _ sq).sq, t.rpL s1 rl⟩, trivial⟩, h⟩
  | non => exact h.elim
  | bl _ => exact h.elim
  | int _ => exact h.elim
  | str _ => exact h.elim
  | fn _ => exact h.elim
  | ty _ => exact h.elim
  | lw _ _ => exact h.elim
theorem iok_enum {K : PySem.W.Frag} {mg : Str → Option Value} {k : Bool} {a : Addr} {ds : List D} {chk : Sto → Prop} {S1 : Sto} {H1 : Hp} {k0 : Int} (o : SqO K mg k a ds chk S1 H1) : IOk K mg (Itek K k k0 a) (enumD k0 ds) chk S1 H1 where
  go := fun i S H t s l hi => by
    rw [enumD_length] at hi
    obtain ⟨xs, sq, rl⟩ := o.sq S H t s l
    exact ⟨xs, xs[i]'(by rw [← rl.length]; exact hi), sq, List.getElem?_eq_getElem _⟩
  stop := fun S H t s l => by
    obtain ⟨xs, sq, rl⟩ := o.sq S H t s l
    exact ⟨xs, sq, by rw [enumD_length, rl.length]⟩
  yld := fun i S H v H' t s l hi ⟨T, x, ev, nT, eH, f⟩ => by
    subst ev eH
    obtain ⟨xs, sq, rl⟩ := o.sq S H t s l
    obtain ⟨d, h1, r1⟩ := rl.get' (f xs sq)
    have tl := Tr.laidH (S := S) (o := .tup [.int (k0 + (i : Nat)), x]) nT
    exact ⟨_, enumD_get h1, tl, s.laidH nT, .tup upd_same (.cons (.int _) (.cons (tl.rp s r1) .nil))⟩
section
variable {X : Cx} {Z : Zb} {tg e : Expr} {ta : DA} {p pos : Pos}
def iEnm (ta : DA) : DI := fun ρ S P => ta ρ S fun ds S1 => match ds with
  | [x] => sqD x S1 fun its chk => P (enumD 0 its) chk S1
  | _ => False
theorem si_enum {elts : List Expr} {kk : Nat} {tpos : Pos} (hg : Gl X "enumerate") (hm : X.mg "enumerate" = none) (ha : SA X Z [e] ta) (hs : starEach [e] X.env = [(false, eval e X.env)]) :
    SI X Z (.Tuple elts kk tpos) (.Call (.Name "enumerate" p) [e] [] pos) (iEnm ta) := by
  refine piI (pi_enumK hg hm ha hs) fun σ H R ⟨ρ, S, P, r, s, z, h, k⟩ => ?_
  refine ⟨ρ, S, _, r, s, z, h, fun x S1 v H1 t1 s1 rx h1 => ?_⟩
  obtain ⟨x, rfl, h1⟩ : ∃ x0, x = [x0] ∧ sqD x0 S1 fun its chk => P (enumD 0 its) chk S1 := by
    split at h1
    · exact ⟨_, rfl, h1⟩
    · exact h1.elim
  obtain ⟨v, rfl, r1⟩ := rx.o1
  obtain ⟨k', a, ds, chk, rfl, so, h1⟩ := sqD_of s1 r1 h1
  obtain ⟨xs, sq, rl⟩ := so.sq S1 H1 (Tr.refl _ _) s1 so.now
  exact ⟨k', a, xs, rfl, sq, k _ _ _ _ _ t1 s1 (iok_enum so) h1⟩
end
end DL
set_option Elab.async false
set_option linter.all false
set_option maxRecDepth 100000
set_option maxHeartbeats 4000000
namespace DL
open PySem PySem.Spec PyProof.Rows L2 RZ
section
variable {X : Cx} {pins : List (Addr × Obj)} {σ : L2.St} {H H' : Hp} {s : Shared} {h' : Heap} {t' : Nat}
theorem Inv.lay (I : Inv X pins σ H s) (k : ∀ b u, s.heap.get? b = some u → h'.get? b = some u) (old : ∀ b, b < s.heap.objs.size → H' b = H b)
    (new : ∀ b u, s.heap.objs.size ≤ b → H' b = some u → ObjOk X.prog X.w H' h' b u) : Inv X pins σ H' { s with heap := h', toks := t' } := by
  have lt : ∀ b u, H b = some u → b < s.heap.objs.size := fun b u e => (I.hok b u e).lt
  have up : ∀ b u, H b = some u → H' b = some u := fun b u e => (old b (lt b u e)).trans e
  refine I.un ⟨fun b u q _ _ _ => k b u q, fun b u q _ _ _ => ⟨u.slots, k b u q⟩, fun b u q n _ => ?_, fun b u q _ => ⟨u, k b u q⟩, fun b xs q => up b _ q, fun b u xs q => up b _ q, fun b ps q => ⟨#[], by rw [up b _ q]; simp⟩⟩ fun b u e => ?_
  · rw [old b (Heap.lt_size q)]; exact n
  · by_cases hb : b < s.heap.objs.size
    · rw [old b hb] at e
      exact (I.hok b u e).stay (fun c v _ q => k c v q) (fun c q => up c _ q) fun c xs q => up c _ q
    · exact new b u (Nat.le_of_not_lt hb) e
end
theorem ItSq.ne {h : Heap} {k k2 : Bool} {a a2 it : Addr} {i : Nat} {its : Array Value} (q : IsIt h k it a2 i) (p : IsSq h k2 a its) : a ≠ it := fun z => by
  obtain ⟨oi, hoi, hdi⟩ := q.cls
  obtain ⟨oa, na, hoa, hda⟩ := p.cls
  rw [z, hoi] at hoa
  cases hoa
  rw [hda] at hdi; cases hdi
section
variable {X : Cx} {Z : Zb} {a b : Expr} {ta : DA} {p p2 pos pos2 : Pos}
def dZ2 (ta : DA) : Nv → Sto → (List D → List D → (Sto → Prop) → Sto → Prop) → Prop := fun ρ S P => ta ρ S fun ds S1 => match ds with
  | [x, y] => sqD x S1 fun xs c1 => sqD y S1 fun ys c2 => P xs ys (fun S' => c1 S' ∧ c2 S') S1
  | _ => False
theorem dZ2_inv {ds : List D} {S1 : Sto} {P : List D → List D → (Sto → Prop) → Sto → Prop} (h : match ds with | [x, y] => sqD x S1 fun xs c1 => sqD y S1 fun ys c2 => P xs ys (fun S' => c1 S' ∧ c2 S') S1 | _ => False) :
    ∃ x y, ds = [x, y] ∧ sqD x S1 fun xs c1 => sqD y S1 fun ys c2 => P xs ys (fun S' => c1 S' ∧ c2 S') S1 := by
  split at h
  · exact ⟨_, _, rfl, h⟩
  · exact h.elim
def iZip (ta : DA) : DI := fun ρ S P => dZ2 ta ρ S fun xs ys chk S1 => P (zipD xs ys) chk S1
def zipH (H : Hp) (Sx : Addr) (as : List Addr) (xs ys : List V) : Hp := fun b => if b = Sx then some (.lst (as.map V.ref)) else match as.idxOf? b with
  | some j => some (.tup [xs.getD j .non, ys.getD j .non])
  | none => H b
def tLzip (K : PySem.W.Frag) (ta : TA) : TE := fun σ H Q => ta σ H fun vs H1 => ∃ k1 k2 a b xs ys, vs = [.ref a, .ref b] ∧ SqK K k1 H1 a xs ∧ SqK K k2 H1 b ys ∧
  ∀ (Sx : Addr) (as : List Addr) (lo : Addr), as.length = min xs.length ys.length → as.Nodup → (∀ c ∈ as, lo < c) → Sx ≤ lo → (∀ c, Sx ≤ c → H1 c = none) → Q (.ref Sx) (zipH H1 Sx as xs ys)
theorem idxOf?_get {as : List Addr} {b : Addr} {j : Nat} (h : as.idxOf? b = some j) : as[j]? = some b := by
  have := List.of_findIdx?_eq_some h
  split at this
  · rename_i a e
    rw [e]
    simp at this
    rw [this]
  · cases this
theorem idxOf?_of {as : List Addr} {b : Addr} {j : Nat} (nd : as.Nodup) (h : as[j]? = some b) : as.idxOf? b = some j := by
  cases e : as.idxOf? b with
  | none =>
    have hm : b ∈ as := List.mem_of_getElem? h
    have := List.findIdx?_eq_none_iff.mp e b hm
    simp at this
  | some i =>
    have hi := idxOf?_get e
    obtain ⟨l1, e1⟩ := List.getElem?_eq_some_iff.mp hi
    obtain ⟨l2, e2⟩ := List.getElem?_eq_some_iff.mp h
    exact congrArg some ((List.getElem_inj nd).mp (e1.trans e2.symm))
theorem vals_refs : ∀ as : List Addr, Vals (as.map V.ref) (as.map Value.ref)
  | [] => .nil
  | _ :: r => .cons rfl (vals_refs r)
theorem vals_get' : ∀ {xs : List V} {us : List Value} {i : Nat} {u : Value}, Vals xs us → us[i]? = some u → ∃ x, xs[i]? = some x ∧ RelV x u
  | _, _, i, _, .nil, e => by simp at e
  | _, _, 0, _, .cons r _, e => by simp at e; subst e; exact ⟨_, rfl, r⟩
  | _, _, i + 1, u, .cons _ t, e => by
    obtain ⟨x, h1, h2⟩ := vals_get' (i := i) (u := u) t (by simpa using e)
    exact ⟨x, by simpa using h1, h2⟩
theorem pe_lzip {e e2 : Expr} {ta : TA} (hl : Gl X "list") (hlm : X.mg "list" = none) (hc : X.calm = true) (hg : Gl X "zip") (hm : X.mg "zip" = none) (ha : PA X [e, e2] ta)
    (hs : starEach [e, e2] X.env = (false, eval e X.env) :: starEach [e2] X.env) (hpl : (backTo pos2 (starEach [e2] X.env)).any (·.1) = false)
    (hs1 : starEach [.Call (.Name "zip" p2) [e, e2] [] pos2] X.env = (false, eval (.Call (.Name "zip" p2) [e, e2] [] pos2) X.env) :: starEach [] X.env) :
    PE X (.Call (.Name "list" p) [.Call (.Name "zip" p2) [e, e2] [] pos2] [] pos) (tLzip X.K ta) := by
  refine ⟨fun pins s σ H Q I h => ?_⟩
  refine Call_ (ld_blt I hl hlm boot_list (PyProof.Rows.callWith_type1 ?_ hs1 rfl))
  rw [hs1]
  refine Calls.spliced_cons ?_
  refine Call_ (ld_blt I hg hm PyProof.Rows.boot_zip (PyProof.Rows.callWith_type1 (thn (ha.run pos2 pins s σ H _ I h) fun us s1 ⟨vs, H1, I1, r1, q1⟩ => ?_) hs hpl))
  obtain ⟨k1, k2, a, b, xs, ys, ex, hqx, hqy, q⟩ := q1
  subst ex
  cases r1 with
  | cons r rr =>
    cases rr with
    | cons r' rr =>
      cases rr
      cases r
      cases r'
      obtain ⟨its, rv, p1⟩ := Inv.sqK I1 hqx
      obtain ⟨its2, rv2, p2⟩ := Inv.sqK I1 hqy
      refine zip_begins2 (beginsK k1 a its.toArray) (beginsK k2 b its2.toArray) p1 p2 fun h' hz hTI hTO h1 h2 hsz hk => ?_
      show wpAny _ _ (spliced []) _ _ _
      refine Calls.spliced_nil ?_
      show wpAny _ _ (call (.type "list") [.ref (s1.heap.objs.size + 4)]) _ _ _
      obtain ⟨N, hN⟩ : ∃ N : Nat, N = s1.heap.objs.size := ⟨_, rfl⟩
      rw [← hN] at hz hTI hTO h1 h2 hsz ⊢
      have la : @LT.lt Nat _ a N := by rw [hN]; exact p1.lt
      have lb : @LT.lt Nat _ b N := by rw [hN]; exact p2.lt
      have sep := zip_sep2 (N := N) (fp1 := [a]) (fp2 := [b]) (fun c hc => by rw [List.mem_singleton.mp hc]; exact la) (fun c hc => by rw [List.mem_singleton.mp hc]; exact lb)
      have l1 := rv.length
      have l2 := rv2.length
      have hh : X.A.in1.in1.in1.handled = none := I.ok.hd hc
      have hz1 : xs.length ≤ sizeLine := by
        cases k1
        · exact (I1.list hqx).choose_spec.2.2
        · exact (I1.tuple hqx).choose_spec.2.2
      have q1 : IsSq h' k1 a its.toArray := p1.at fun o e => hk _ _ e
      have q2 : IsSq h' k2 b its2.toArray := p2.at fun o e => hk _ _ e
      refine zl_call (A := X.A) (s := { s1 with heap := h' }) (P1 := fun i v => its.toArray[i]? = some v) (P2 := fun i v => its2.toArray[i]? = some v) sep (drawsK (A := X.A.in1.in1.in1) (prog := X.prog) (w := X.w) hh k1 N a (ItSq.ne (IsIt.new h1) q1) its.toArray) (drawsK (A := X.A.in1.in1.in1) (prog := X.prog) (w := X.w) hh k2 (N + 1) b (ItSq.ne (IsIt.new h2) q2) its2.toArray)
        ⟨hz, hTI, hTO, ⟨IsIt.new h1, q1⟩, ⟨IsIt.new h2, q2⟩⟩ ?_ ?_ (by simp; omega) fun h2' tk acc cc as hk2 hS hal hG hacc => ?_
      · show (N + 4 : Nat) < h'.objs.size ∧ (N + 2 : Nat) < h'.objs.size ∧ (N + 3 : Nat) < h'.objs.size ∧ N < h'.objs.size ∧ (N + 1 : Nat) < h'.objs.size
        rw [hsz]
        exact ⟨by omega, by omega, by omega, by omega, by omega⟩
      · show (∀ b_1 ∈ [N, a], b_1 < h'.objs.size) ∧ ∀ b_1 ∈ [N + 1, b], b_1 < h'.objs.size
        rw [hsz]
        refine ⟨fun c hc => ?_, fun c hc => ?_⟩
        · have : c = N ∨ c = a := by simpa using hc
          rcases this with z | z
          · rw [z]; exact (show (N : Nat) < N + 5 by omega)
          · rw [z]; exact Nat.lt_of_lt_of_le la (Nat.le_add_right N 5)
        · have : c = N + 1 ∨ c = b := by simpa using hc
          rcases this with z | z
          · rw [z]; exact (show (N + 1 : Nat) < N + 5 by omega)
          · rw [z]; exact Nat.lt_of_lt_of_le lb (Nat.le_add_right N 5)
      · dsimp only at hk2 hS hG hal ⊢
        rw [hsz] at hS hG ⊢
        have hal' : as.length = min xs.length ys.length := by rw [hal]; simp; omega
        have fr : ∀ c, N ≤ c → H1 c = none := fun c hc => I1.hok.fresh (by rw [← hN]; exact hc)
        have frS : ∀ c, N + 5 ≤ c → H1 c = none := fun c hc => fr c (Nat.le_trans (Nat.le_add_right N 5) hc)
        have kk : ∀ b u, s1.heap.get? b = some u → h2'.get? b = some u := fun c u e => by
          have hc : @LT.lt Nat _ c N := by rw [hN]; exact Heap.lt_size e
          have ne : ∀ k : Nat, c ≠ N + k := fun k z => by
            have z' : @Eq Nat c (N + k) := z
            omega
          exact hk2 c u (ne 4) (ne 3) (ne 0) (ne 1) (hk c u e)
        have I3 : Inv X pins σ (zipH H1 (N + 5) as xs ys) { s1 with heap := h2', toks := tk } := by
          refine Inv.lay I1 kk (fun c hc => ?_) fun c u hc e => ?_
          · rw [← hN] at hc
            unfold zipH
            have hc' : @LT.lt Nat _ c N := hc
            rw [if_neg (fun z => by
              have z' : @Eq Nat c (N + 5) := z
              omega)]
            cases e : as.idxOf? c with
            | none => rfl
            | some j =>
              have := hG.above c (List.mem_of_getElem? (idxOf?_get e))
              have this : @LT.lt Nat _ (N + 5) c := this
              omega
          · by_cases hcS : c = N + 5
            · subst hcS
              unfold zipH at e
              rw [if_pos rfl] at e
              cases e
              refine ⟨?_, acc.toList, cc, ?_, by simpa using hS⟩
              · rw [List.length_map, hal']; omega
              · rw [hacc]; exact vals_refs as
            · have e0 := e
              unfold zipH at e
              rw [if_neg hcS] at e
              rw [← hN] at hc
              cases e2 : as.idxOf? c with
              | none =>
                rw [e2] at e
                rw [fr c hc] at e
                cases e
              | some j =>
                rw [e2] at e
                cases e
                obtain ⟨w1, w2, g1, g2, g3⟩ := hG.pairs j c (idxOf?_get e2)
                have m1 : ∃ x, xs[j]? = some x ∧ RelV x w1 := vals_get' rv (by simpa using g1)
                have m2 : ∃ y, ys[j]? = some y ∧ RelV y w2 := vals_get' rv2 (by simpa using g2)
                obtain ⟨x, hx, rx⟩ := m1
                obtain ⟨y, hy, ry⟩ := m2
                refine ⟨by show 2 ≤ sizeLine; decide, [w1, w2], ?_, ⟨_, g3, rfl, _, rfl⟩⟩
                rw [List.getD_eq_getElem?_getD, hx, List.getD_eq_getElem?_getD, hy]
                exact .cons rx (.cons ry .nil)
        exact ⟨.ref (N + 5), _, I3, rfl, q (N + 5) as (N + 5) hal' hG.nd hG.above (Nat.le_refl _) frS⟩
theorem RpL.of_get {K : PySem.W.Frag} {mg : Str → Option Value} {H : Hp} : ∀ {ds : List D} {vs : List V}, ds.length = vs.length → (∀ (i : Nat) (d : D) (v : V), ds[i]? = some d → vs[i]? = some v → Rp K mg H d v) → RpL K mg H ds vs
  | [], [], _, _ => .nil
  | [], _ :: _, h, _ => by simp at h
  | _ :: _, [], h, _ => by simp at h
  | _ :: ds, _ :: vs, h, k => .cons (k 0 _ _ rfl rfl) (RpL.of_get (by simpa using h) fun i d v e1 e2 => k (i + 1) d v (by simpa using e1) (by simpa using e2))
theorem zipD_get' : ∀ {xs ys : List D} {i : Nat} {d : D}, (zipD xs ys)[i]? = some d → ∃ x y, d = .tup [x, y] ∧ xs[i]? = some x ∧ ys[i]? = some y
  | [], _, _, _, h => by simp [zipD] at h
  | _ :: _, [], _, _, h => by simp [zipD] at h
  | _ :: _, _ :: _, 0, _, h => by simp [zipD] at h; subst h; exact ⟨_, _, rfl, rfl, rfl⟩
  | _ :: xs, _ :: ys, i + 1, d, h => by
    obtain ⟨x, y, e, h1, h2⟩ := zipD_get' (xs := xs) (ys := ys) (i := i) (d := d) (by simpa [zipD] using h)
    exact ⟨x, y, e, by simpa using h1, by simpa using h2⟩
theorem RpL.getD {K : PySem.W.Frag} {mg : Str → Option Value} {H : Hp} {ds : List D} {vs : List V} {i : Nat} {d : D} (r : RpL K mg H ds vs) (h : ds[i]? = some d) : Rp K mg H d (vs.getD i .non) := by
  obtain ⟨v, e, q⟩ := r.get h
  rw [List.getD_eq_getElem?_getD, e]
  exact q
def dLzip (ta : DA) : DE := fun ρ S Q => dZ2 ta ρ S fun xs ys _ S1 => ∀ p, S1 p = none → Q (.ref p) (up1 S1 p (.lst (zipD xs ys)))
theorem s_lzip (hl : Gl X "list") (hlm : X.mg "list" = none) (hc : X.calm = true) (hg : Gl X "zip") (hm : X.mg "zip" = none) (ha : SA X Z [a, b] ta)
    (hs : starEach [a, b] X.env = (false, eval a X.env) :: starEach [b] X.env) (hpl : (backTo pos2 (starEach [b] X.env)).any (·.1) = false)
    (hs1 : starEach [.Call (.Name "zip" p2) [a, b] [] pos2] X.env = (false, eval (.Call (.Name "zip" p2) [a, b] [] pos2) X.env) :: starEach [] X.env) :
    SE X Z (.Call (.Name "list" p) [.Call (.Name "zip" p2) [a, b] [] pos2] [] pos) (dLzip ta) := by
  refine peI (pe_lzip hl hlm hc hg hm ha hs hpl hs1) fun σ H Q ⟨ρ, S, P, r, s, z, h, k⟩ => ?_
  refine ⟨ρ, S, _, r, s, z, h, fun x S1 v H1 t1 s1 rx h1 => ?_⟩
  obtain ⟨x, y, rfl, h1⟩ := dZ2_inv (P := fun xs ys _ S1 => ∀ p, S1 p = none → P (.ref p) (up1 S1 p (.lst (zipD xs ys)))) h1
  obtain ⟨v1, v2, rfl, r1, r2⟩ := rx.o2
  obtain ⟨k1, a, ds, c1, rfl, o1, h1⟩ := sqD_of s1 r1 h1
  obtain ⟨k2, b, es, c2, rfl, o2, h1⟩ := sqD_of s1 r2 h1
  obtain ⟨xs, sq, rl⟩ := o1.sq S1 H1 (Tr.refl _ _) s1 o1.now
  obtain ⟨ys, sq2, rl2⟩ := o2.sq S1 H1 (Tr.refl _ _) s1 o2.now
  refine ⟨k1, k2, a, b, xs, ys, rfl, sq, sq2, fun Sx as lo hal nd hab hlo fr => ?_⟩
  have nas : ∀ c, H1 c ≠ none → c ≠ Sx ∧ as.idxOf? c = none := fun c hc => by
    refine ⟨fun e => hc (by rw [e]; exact fr Sx (Nat.le_refl _)), ?_⟩
    cases e : as.idxOf? c with
    | none => rfl
    | some j => exact absurd (fr c (Nat.le_trans hlo (Nat.le_of_lt (hab c (List.mem_of_getElem? (idxOf?_get e)))))) hc
  have keep : ∀ c o, H1 c = some o → zipH H1 Sx as xs ys c = some o := fun c o e => by
    obtain ⟨n1, n2⟩ := nas c (by rw [e]; exact fun z => nomatch z)
    unfold zipH
    rw [if_neg n1, n2]; exact e
  have nS : H1 Sx = none := fr Sx (Nat.le_refl _)
  have tA : Kp H1 (zipH H1 Sx as xs ys) := ⟨fun c us q => keep c _ q, fun c o us q => keep c _ q⟩
  have tr : Tr S1 H1 (up1 S1 Sx (.lst (zipD ds es))) (zipH H1 Sx as xs ys) := Tr.of (fun c o e _ => keep c o e) fun c n q => by
    by_cases e : c = Sx
    · rw [e]; exact nS
    · rw [up1_ne e] at q; exact absurd n q
  have l1 := rl.length
  have l2 := rl2.length
  have hS' : zipH H1 Sx as xs ys Sx = some (.lst (as.map V.ref)) := by unfold zipH; rw [if_pos rfl]
  have rz : RpL X.K X.mg (zipH H1 Sx as xs ys) (zipD ds es) (as.map V.ref) := by
    refine RpL.of_get (by rw [zipD_length, List.length_map, hal, l1, l2]) fun i d v e1 e2 => ?_
    obtain ⟨x, y, rfl, h1, h2⟩ := zipD_get' e1
    rw [List.getElem?_map] at e2
    cases e3 : as[i]? with
    | none => rw [e3] at e2; cases e2
    | some T =>
      rw [e3] at e2
      cases e2
      have hTne : T ≠ Sx := fun z => Nat.lt_irrefl _ (Nat.lt_of_le_of_lt hlo (z ▸ hab T (List.mem_of_getElem? e3)))
      have hT : zipH H1 Sx as xs ys T = some (.tup [xs.getD i .non, ys.getD i .non]) := by
        unfold zipH
        rw [if_neg hTne, idxOf?_of nd e3]
      exact .tup hT (.cons ((rl.getD h1).mono tA) (.cons ((rl2.getD h2).mono tA) .nil))
  refine k _ _ _ _ (t1.trans tr) ⟨fun c o e => ?_, s1.tab.to (fun a o e _ _ => keep a o e) fun a n e _ => by rw [up1_ne (fun z => e (by rw [z]; exact nS))]; exact n⟩ (.ref Sx) (h1 Sx (s1.free nS))
  by_cases ec : c = Sx
  · subst ec
    rw [up1_same] at e; cases e
    exact ⟨_, hS', .lst rz⟩
  · rw [up1_ne ec] at e
    obtain ⟨u, q, r'⟩ := s1 c o e
    exact ⟨u, keep c u q, r'.mono tA⟩
end
end DL
set_option Elab.async false
set_option linter.all false
set_option maxRecDepth 100000
set_option maxHeartbeats 4000000
namespace DL
open PySem PySem.Spec PyProof.Rows L2 RZ
section
variable {X : Cx} {Z : Zb} {K : PySem.W.Frag} {mg : Str → Option Value}
theorem s_ty {x : Str} {n : String} {p : Pos} (hg : Gl X x) (hm : X.mg x = none) (hv : bootBuiltins x = some (.type n)) (hn : x ≠ "__name__") (hd : (x == ("__debug__" : Str)) = false) : SE X Z (.Name x p) (dC (.ty n)) :=
  peI (pe_bltn hg hm hv (v := .ty n) rfl hn hd) fun _ _ _ ⟨_, _, _, _, s, _, h, k⟩ => k.now s (.ty n) h
theorem sqD_at {H : Hp} {S : Sto} {x : D} {v : V} {P : List D → (Sto → Prop) → Prop} (s : StO K mg S H) (r : Rp K mg H x v) (h : sqD x S P) :
    ∃ k a ds xs chk, v = .ref a ∧ SqK K k H a xs ∧ RpL K mg H ds xs ∧ P ds chk := by
  obtain ⟨k, a, ds, chk, rfl, o, h⟩ := sqD_of s r h
  obtain ⟨xs, sq, rl⟩ := o.sq S H (Tr.refl _ _) s o.now
  exact ⟨k, a, ds, xs, chk, rfl, sq, rl, h⟩
theorem SqK.or {k : Bool} {H : Hp} {a : Addr} {xs : List V} (h : SqK K k H a xs) : SqL K H a xs ∨ SqT K H a xs := by
  cases k
  · exact .inl h
  · exact .inr h
def a1 (xs : List D) (P : D → Prop) : Prop := match xs with
  | [x] => P x
  | _ => False
theorem a1_of {H : Hp} {xs : List D} {vs : List V} {P : D → Prop} (r : RpL K mg H xs vs) (h : a1 xs P) : ∃ x v, xs = [x] ∧ vs = [v] ∧ Rp K mg H x v ∧ P x := by
  unfold a1 at h
  split at h
  · obtain ⟨v, rfl, q⟩ := r.o1
    exact ⟨_, v, rfl, rfl, q, h⟩
  · exact h.elim
def a2 (xs : List D) (P : D → D → Prop) : Prop := match xs with
  | [x, y] => P x y
  | _ => False
theorem a2_of {H : Hp} {xs : List D} {vs : List V} {P : D → D → Prop} (r : RpL K mg H xs vs) (h : a2 xs P) : ∃ x y v w, xs = [x, y] ∧ vs = [v, w] ∧ Rp K mg H x v ∧ Rp K mg H y w ∧ P x y := by
  unfold a2 at h
  split at h
  · obtain ⟨v, w, rfl, q1, q2⟩ := r.o2
    exact ⟨_, _, v, w, rfl, rfl, q1, q2, h⟩
  · exact h.elim
def dLen : DN := fun xs S Q => a1 xs fun x => match x with
  | .str z => z.length ≤ sizeLine ∧ Q (.int z.length) S
  | .tup ds => Q (.int ds.length) S
  | .ref a => ∃ ds, LA S a ds ∧ Q (.int ds.length) S
  | _ => False
def rLenA (K : PySem.W.Frag) : List V → Hp → VK → Prop := fun xs H Q => (∃ p ys, xs = [.ref p] ∧ (SqL K H p ys ∨ SqT K H p ys) ∧ Q (.int ys.length) H) ∨ ∃ z, xs = [.str z] ∧ z.length ≤ sizeLine ∧ Q (.int z.length) H
theorem cr_len : CallR X (.builtin "len") (rLenA X.K) := call_len_seq.or call_len_str
theorem len_ok : OpN K mg (rLenA K) dLen := by
  intro S H xs vs P Q s rx h k
  obtain ⟨x, v, rfl, rfl, r, h⟩ := a1_of rx h
  cases r with
  | str z => exact .inr ⟨z, rfl, h.1, k.now s (.int _) h.2⟩
  | tup sq rl => exact .inl ⟨_, _, rfl, .inr sq.sq, by rw [← rl.length]; exact k.now s (.int _) h⟩
  | ref a =>
    obtain ⟨ds, l, h⟩ := h
    obtain ⟨ys, sq, rl⟩ := s.sqL l
    exact .inl ⟨_, _, rfl, .inl sq, by rw [← rl.length]; exact k.now s (.int _) h⟩
  | non => exact h.elim
  | bl _ => exact h.elim
  | int _ => exact h.elim
  | fn _ => exact h.elim
  | ty _ => exact h.elim
  | lw _ _ => exact h.elim
def dAbs : DN := fun xs S Q => a1 xs fun x => match x with
  | .int i => Q (.int (if i < 0 then -i else i)) S
  | _ => False
theorem abs_ok : OpN K mg (fun xs H Q => ∃ i, xs = [.int i] ∧ Q (.int (if i < 0 then -i else i)) H) dAbs := by
  intro S H xs vs P Q s rx h k
  obtain ⟨x, v, rfl, rfl, r, h⟩ := a1_of rx h
  cases r <;> first
    | exact h.elim
    | exact ⟨_, rfl, k.now s (.int _) h⟩
def dInt : DN := fun xs S Q => a1 xs fun x => match x with
  | .int i => Q (.int i) S
  | .bl b => Q (.int (if b then 1 else 0)) S
  | _ => False
theorem int_ok : OpN K mg (fun xs H Q => (∃ i, xs = [.int i] ∧ Q (.int i) H) ∨ ∃ k, xs = [.bl k] ∧ Q (.int (if k then 1 else 0)) H) dInt := by
  intro S H xs vs P Q s rx h k
  obtain ⟨x, v, rfl, rfl, r, h⟩ := a1_of rx h
  cases r <;> first
    | exact h.elim
    | exact .inl ⟨_, rfl, k.now s (.int _) h⟩
    | exact .inr ⟨_, rfl, k.now s (.int _) h⟩
def dMin2 : DN := fun xs S Q => a2 xs fun x y => match x, y with
  | .int i, .int j => Q (.int (if j < i then j else i)) S
  | _, _ => False
theorem min2_ok : OpN K mg (fun xs H Q => ∃ i j, xs = [.int i, .int j] ∧ Q (.int (if j < i then j else i)) H) dMin2 := by
  intro S H xs vs P Q s rx h k
  obtain ⟨x, y, v, w, rfl, rfl, r, r', h⟩ := a2_of rx h
  cases r <;> cases r' <;> first
    | exact h.elim
    | exact ⟨_, _, rfl, k.now s (.int _) h⟩
def dMax2 : DN := fun xs S Q => a2 xs fun x y => match x, y with
  | .int i, .int j => Q (.int (if j > i then j else i)) S
  | _, _ => False
theorem walksK {prog : Program} {w : World} {A : Around} (hh : A.handled = none) (k : Bool) (it a : Addr) (hne : a ≠ it) (its : Array Value) :
    Walks prog w A it [it, a] [it] its.size (fun i v => its[i]? = some v) (fun i h => IsIt h k it a i ∧ IsSq h k a its) := by
  cases k
  · exact Walks.list hh it a hne its
  · exact Walks.tuple hh it a hne its
theorem vals_int_at : ∀ {ns : List Int} {us : List Value} {i : Nat} {u : Value}, Vals (ns.map V.int) us → us[i]? = some u → ∃ t, u = .int (ns.getD i 0) t
  | [], _, i, _, .nil, e => by simp at e
  | n :: ns, _, 0, u, .cons r _, e => by
    simp at e; subst e
    obtain ⟨t, rfl⟩ := r
    exact ⟨t, rfl⟩
  | n :: ns, _, i + 1, u, .cons _ t, e => by
    obtain ⟨tk, h⟩ := vals_int_at (i := i) (u := u) t (by simpa using e)
    exact ⟨tk, by simpa using h⟩
def rSumK (K : PySem.W.Frag) : List V → Hp → VK → Prop := fun vs H Q => ∃ (k : Bool) (a : Addr) (ns : List Int), vs = [V.ref a] ∧ SqK K k H a (ns.map V.int) ∧ Q (.int ns.sum) H
theorem cr_sumK (hc : X.calm = true) : CallR X (.builtin "sum") (rSumK X.K) := by
  intro pins s σ H vs us Q I r h
  obtain ⟨k, a, ns, rfl, hs, q⟩ := h
  obtain ⟨its, rv, p⟩ := Inv.sqK I hs
  rw [Vals.ref1 r]
  have hl := rv.length
  rw [List.length_map] at hl
  have hne : a ≠ s.heap.objs.size := Nat.ne_of_lt p.lt
  refine call_sum_walkG ((beginsK k a its.toArray).iter X.prog X.w X.A.in1 _ s _ p ⟨s.heap.objs.size, [s.heap.objs.size, a], [s.heap.objs.size], its.toArray.size, _, _, fun i => ns.getD i 0, rfl,
    walksK (prog := X.prog) (w := X.w) (A := X.A.in1) (show X.A.in1.handled = none from I.ok.hd hc) k s.heap.objs.size a hne its.toArray, ⟨?_, ?_⟩, ?_, fun i v hv => vals_int_at rv (by simpa using hv), fun h' tk t' hk => ?_⟩)
  · exact IsIt.new (Heap.get?_push_size _ (beginsK k a its.toArray).free)
  · exact p.at fun o e => Heap.get?_push_of_some _ e
  · intro b hb
    rw [Heap.size_push]
    have : b = s.heap.objs.size ∨ b = a := by simpa using hb
    rcases this with z | z
    · rw [z]; exact Nat.lt_succ_self _
    · rw [z]; exact Nat.lt_succ_of_lt p.lt
  · rw [show preSum (fun i => ns.getD i 0) its.toArray.size = ns.sum by rw [preSum_getD, List.take_of_length_le (by simp; omega)]]
    exact ⟨.int _, H, I.kept fun b o e => hk b o (by simpa using Nat.ne_of_lt (Heap.lt_size e)) (Heap.get?_push_of_some _ e), ⟨_, rfl⟩, q⟩
def dSum : DN := fun xs S Q => a1 xs fun x => sqD x S fun ds _ => ∃ ns : List Int, ds = ns.map D.int ∧ Q (.int ns.sum) S
theorem sum_ok : OpN K mg (rSumK K) dSum := by
  intro S H xs vs P Q s rx h k
  obtain ⟨x, v, rfl, rfl, r, h⟩ := a1_of rx h
  obtain ⟨kk, a, ds, us, chk, rfl, sq, rl, ns, rfl, h⟩ := sqD_at s r h
  rw [rl.ints] at sq
  exact ⟨kk, a, ns, rfl, sq, k.now s (.int _) h⟩
def dAll : DN := fun xs S Q => a1 xs fun x => match x with
  | .ref a => ∃ bs : List Bool, LA S a (bs.map D.bl) ∧ Q (.bl (bs.all id)) S
  | _ => False
def dAny : DN := fun xs S Q => a1 xs fun x => match x with
  | .ref a => ∃ bs : List Bool, LA S a (bs.map D.bl) ∧ Q (.bl (bs.any id)) S
  | _ => False
def dList1 : DN := fun xs S Q => a1 xs fun x => sqD x S fun ds _ => ∀ p, S p = none → Q (.ref p) (up1 S p (.lst ds))
theorem list1_ok : OpN K mg (fun xs H Q => ∃ p ys, xs = [.ref p] ∧ (SqL K H p ys ∨ SqT K H p ys) ∧ ∀ l, H l = none → Q (.ref l) (upd H l (.lst ys))) dList1 := by
  intro S H xs vs P Q s rx h k
  obtain ⟨x, v, rfl, rfl, r, h⟩ := a1_of rx h
  obtain ⟨kk, a, ds, us, chk, rfl, sq, rl, h⟩ := sqD_at s r h
  exact ⟨a, us, rfl, sq.or, k.newL s rl h⟩
def dTuple1 : DN := fun xs S Q => a1 xs fun x => sqD x S fun ds _ => Q (.tup ds) S
theorem tuple1_ok : OpN K mg (fun xs H Q => ∃ p ys, xs = [.ref p] ∧ ((SqL K H p ys ∧ ∀ l, H l = none → Q (.ref l) (upd H l (.tup ys))) ∨ (SqT K H p ys ∧ Q (.ref p) H))) dTuple1 := by
  intro S H xs vs P Q s rx h k
  obtain ⟨x, v, rfl, rfl, r, h⟩ := a1_of rx h
  cases r with
  | tup sq rl => exact ⟨_, _, rfl, .inr ⟨sq.sq, k.now s (.tup sq rl) h⟩⟩
  | ref a =>
    obtain ⟨ds, l, h⟩ := h
    obtain ⟨us, sq, rl⟩ := s.sqL l
    exact ⟨_, us, rfl, .inl ⟨sq, k.newT s rl h⟩⟩
  | non => exact h.elim
  | bl _ => exact h.elim
  | int _ => exact h.elim
  | str _ => exact h.elim
  | fn _ => exact h.elim
  | ty _ => exact h.elim
  | lw _ _ => exact h.elim
def dSortI : DN := fun xs S Q => a1 xs fun x => match x with
  | .ref a => ∃ ns : List Int, LA S a (ns.map D.int) ∧ ∀ (ns' : List Int) (p : Addr), ns'.Perm ns → ns'.Pairwise (· ≤ ·) → S p = none → Q (.ref p) (up1 S p (.lst (ns'.map D.int)))
  | _ => False
def tyN (x : D) (S : Sto) (P : String → Prop) : Prop := match x with
  | .non => P "NoneType"
  | .bl _ => P "bool"
  | .int _ => P "int"
  | .str _ => P "str"
  | .tup _ => P "tuple"
  | .ref a => ((∃ ds, LA S a ds) ∧ P "list") ∨ ((∃ kvs, S a = some (.dK none kvs)) ∧ P "dict")
  | _ => False
theorem tyN_of {H : Hp} {S : Sto} {x : D} {v : V} {P : String → Prop} (s : StO K mg S H) (r : Rp K mg H x v) (h : tyN x S P) : ∃ t, TyX K H v (.type t) ∧ P t := by
  cases r with
  | non => exact ⟨_, .base .non, h⟩
  | bl b => exact ⟨_, .base (.bl b), h⟩
  | int i => exact ⟨_, .base (.int i), h⟩
  | str z => exact ⟨_, .base (.str z), h⟩
  | tup sq rl => exact ⟨_, .base (.tup sq), h⟩
  | ref a =>
    rcases h with ⟨⟨ds, l⟩, h⟩ | ⟨⟨kvs, l⟩, h⟩
    · obtain ⟨o, q, rc⟩ := s a _ l
      cases rc
      exact ⟨_, .base (.lst q), h⟩
    · obtain ⟨o, q, rc⟩ := s a _ l
      cases rc with
      | dK lk _ =>
        cases (show o = _ from lk)
        exact ⟨_, .base (.dK q), h⟩
  | fn _ => exact h.elim
  | ty _ => exact h.elim
  | lw _ _ => exact h.elim
def dIsi : DN := fun xs S Q => a2 xs fun x c => match c with
  | .ty n => tyN x S fun t => ∃ b, kitB t n = some b ∧ Q (.bl b) S
  | .tup [.ty n, .ty m] => tyN x S fun t => ∃ b b', kitB t n = some b ∧ kitB t m = some b' ∧ Q (.bl (b || b')) S
  | .tup [.ty n, .ty m, .ty l] => tyN x S fun t => ∃ b b' b'', kitB t n = some b ∧ kitB t m = some b' ∧ kitB t l = some b'' ∧ Q (.bl (b || (b' || b''))) S
  | _ => False
def rIsiA (K : PySem.W.Frag) : List V → Hp → VK → Prop := fun xs H Q => rIsi K xs H Q ∨ rIsiT K xs H Q ∨ rIsiK K xs H Q
theorem cr_isiA : CallR X (.builtin "isinstance") (rIsiA X.K) := call_isi.or (call_isiT.or call_isiK)
theorem kit_or {t : Value} {c : Value} {cs : List Value} {b b' : Bool} (h : PySem.W.kitOne K t c = some b) (h' : PySem.W.kitAny K t cs = some b') : PySem.W.kitAny K t (c :: cs) = some (b || b') :=
  kitAny_cons h (fun e => by subst e; exact h') fun e => by subst e; rfl
theorem RpL.tys {H : Hp} : ∀ {ns : List String} {vs : List V}, RpL K mg H (ns.map D.ty) vs → vs = ns.map V.ty
  | [], _, .nil => rfl
  | _ :: _, _, .cons r t => by cases r; rw [RpL.tys t]; rfl
theorem paired_ty : ∀ ns : List String, Paired ClsV (ns.map V.ty) (ns.map Value.type)
  | [] => .nil
  | n :: r => .cons (.ty n) (paired_ty r)
theorem isi_tup {S : Sto} {H : Hp} {x : D} {v : V} {a : Addr} {ns : List String} {us : List V} {t : String} {b : Bool} {Q : VK} (sq : TupA K H a us) (rl : RpL K mg H (ns.map D.ty) us) (ty : TyX K H v (.type t)) (hk : PySem.W.kitAny K (.type t) (ns.map Value.type) = some b) (q : Q (.bl b) H) : rIsiA K [v, .ref a] H Q := by
  rw [rl.tys] at sq
  exact .inr (.inl ⟨v, a, _, _, _, b, rfl, sq, paired_ty ns, ty, hk, q⟩)
theorem isi_ok : OpN K mg (rIsiA K) dIsi := by
  intro S H xs vs P Q s rx h k
  obtain ⟨x, y, v, w, rfl, rfl, r, r', h⟩ := a2_of rx h
  split at h
  · cases r'
    obtain ⟨t, ty, b, hk, h⟩ := tyN_of s r h
    exact .inl ⟨v, _, _, _, b, rfl, .ty _, ty, kit_ty hk, k.now s (.bl _) h⟩
  · rename_i n m _
    obtain ⟨t, ty, b, b', hk, hk', h⟩ := tyN_of s r h
    cases r' with
    | tup sq rl => exact isi_tup (S := S) (x := x) (ns := [n, m]) sq rl ty (kit_or (kit_ty hk) (by rw [← Bool.or_false b']; exact kit_or (kit_ty hk') kitAny_nil)) (k.now s (.bl _) h)
  · rename_i n m l _
    obtain ⟨t, ty, b, b', b'', hk, hk', hk'', h⟩ := tyN_of s r h
    cases r' with
    | tup sq rl => exact isi_tup (S := S) (x := x) (ns := [n, m, l]) sq rl ty (kit_or (kit_ty hk) (kit_or (kit_ty hk') (by rw [← Bool.or_false b'']; exact kit_or (kit_ty hk'') kitAny_nil))) (k.now s (.bl _) h)
  · exact h.elim
def rInD (K : PySem.W.Frag) (neg : Bool) : R2 := fun x y H Q => ∃ (k : Bool) (p : Addr) (ps : List PyData) (q : PyData), y = .ref p ∧ Dp K H y (if k then .tuple ps else .list ps) ∧ Dp K H x q ∧ SeqAt.shaped (.list ps) = true ∧ SeqAt.shaped (.tuple ps) = true ∧ SeqAt.shaped q = true ∧
  Q (.bl (if neg then !(ps.any fun z => PyData.eqv z q) else ps.any fun z => PyData.eqv z q)) H
theorem op_inD (hu : X.A.units + 65 < cLine) : OpR X (compareOp .In) (rInD X.K false) := by
  intro pins s σ H x y v u Q I rx ry h
  obtain ⟨k, p, ps, q, rfl, hy, hx, s1, s2, s3, h⟩ := h
  obtain ⟨as, r1⟩ := Dp.reads I _ _ _ hy ry
  obtain ⟨bs, r2⟩ := Dp.reads I _ _ _ hx rx
  cases k
  · exact SeqAt.in_list_reads r1 r2 (SeqAt.canLay_of_shaped s1) (SeqAt.canLay_of_shaped s3) (room_in_shaped s3 hu) ⟨.bl _, H, I, rfl, h⟩
  · exact SeqAt.in_tuple_reads r1 r2 (SeqAt.canLay_of_shaped s2) (SeqAt.canLay_of_shaped s3) (room_in_shaped s3 hu) ⟨.bl _, H, I, rfl, h⟩
theorem op_notInD (hu : X.A.units + 65 < cLine) : OpR X (compareOp .NotIn) (rInD X.K true) := by
  intro pins s σ H x y v u Q I rx ry h
  obtain ⟨k, p, ps, q, rfl, hy, hx, s1, s2, s3, h⟩ := h
  obtain ⟨as, r1⟩ := Dp.reads I _ _ _ hy ry
  obtain ⟨bs, r2⟩ := Dp.reads I _ _ _ hx rx
  cases k
  · exact SeqAt.notIn_list_reads r1 r2 (SeqAt.canLay_of_shaped s1) (SeqAt.canLay_of_shaped s3) (room_in_shaped s3 hu) ⟨.bl _, H, I, rfl, h⟩
  · exact SeqAt.notIn_tuple_reads r1 r2 (SeqAt.canLay_of_shaped s2) (SeqAt.canLay_of_shaped s3) (room_in_shaped s3 hu) ⟨.bl _, H, I, rfl, h⟩
def dPopI : DM := fun x vs S Q => match x, vs with
    | .ref a, [.int i] => ∃ ds j y, S a = some (.lst ds) ∧ -(2 ^ 63) ≤ i ∧ i < 2 ^ 63 ∧ seqIndex? i ds.length = some j ∧ ds[j]? = some y ∧ Q y (up1 S a (.lst (ds.eraseIdx j)))
    | _, _ => False
theorem popAt_ok : OpM K mg rPopAt dPopI := by
  intro S H x xs v vs P Q s rx rxs h k
  unfold dPopI at h
  split at h
  · obtain ⟨ds, j, y, ha, h1, h2, h3, h4, q⟩ := h
    cases rx
    obtain ⟨w, rfl, ry⟩ := rxs.o1
    cases ry
    obtain ⟨us, e1, rl⟩ := s.lst ha
    obtain ⟨z, e2, rz⟩ := rl.get h4
    exact ⟨_, us, _, j, z, rfl, rfl, e1, h1, h2, by rw [← rl.length]; exact h3, e2, k _ _ _ _ (Tr.wrote ha) (s.wrote ha (.lst (rl.eraseIdx j))) (rz.mono ((Tr.wrote (c := .lst (ds.eraseIdx j)) ha).kp s)) q⟩
  · exact h.elim
theorem RpL.dropLast {H : Hp} {ds : List D} {vs : List V} (r : RpL K mg H ds vs) : RpL K mg H ds.dropLast vs.dropLast := by
  rw [List.dropLast_eq_take, List.dropLast_eq_take, r.length]
  exact r.take _
def dPop0 : DM := fun x vs S Q => match x, vs with
    | .ref a, [] => ∃ ds y, S a = some (.lst ds) ∧ ds[ds.length - 1]? = some y ∧ Q y (up1 S a (.lst ds.dropLast))
    | _, _ => False
end
end DL
set_option Elab.async false
set_option linter.all false
set_option maxRecDepth 100000
set_option maxHeartbeats 4000000
namespace DL
open PySem PySem.Spec PyProof.Rows L2 RZ
structure RoomG (k : Nat) (A : Around) : Prop where
  r : Room k A
  g : A.guards = some []
theorem RoomG.mono {j k : Nat} {A : Around} (r : RoomG k A) (h : j ≤ k) : RoomG j A := ⟨r.r.mono h, r.g⟩
theorem RoomG.deeper {k : Nat} {A : Around} (r : RoomG (k + 1) A) (env : Env) : RoomG k (A.deeper env) := ⟨r.r.deeper env, r.g⟩
structure FnG (P : Program) (w : World) (K : PySem.W.Frag) (mg : Str → Option Value) (base : Heap) (CX : CXT) (k : Nat) (f : Addr) (fd : FuncData) (ps : List Str) (sp : Sp) : Prop where
  len : ∀ vs H Q E, sp vs H Q E → vs.length = ps.length
  run : ∀ (A : Around) (outer : List Env) (s : Shared) (H : Hp) (args : Args) (us : List Value) (vs : List V) (Q : VK) (E : XK), RoomG k A → Env0 P w K mg base A outer s H → BindsTo s fd args (ps.zip us) → Vals vs us → sp vs H Q E →
    codeAny (model P w) A (.call (.ref f) args) (CR CX outer P w H s Q E) s
theorem fnG_of {CX : CXT} {P : Program} {w : World} {K : PySem.W.Frag} {mg : Str → Option Value} {base : Heap} {k : Nat} {f : Addr} {name qual : Str} {params : Arguments} {body : List Stmt} {scope : Scope} {dV kV doc pm cdv ct oc : Value} {an od : Option Addr}
    {osl : Array (Option Value)} {N ps : List Str} {sp : Sp} (lk : K.lookup f = some ⟨oc, od, .func (PySem.W.fnOf name qual params body scope dV kV doc pm an cdv ct), osl⟩) (hcd : PySem.W.codeIn K cdv qual = true) (S : FnScope N ps scope)
    (len : ∀ vs H Q E, sp vs H Q E → vs.length = ps.length)
    (hbody : ∀ (A : Around) (outer : List Env) (s : Shared) (H : Hp) (vs : List V) (Q : VK) (E : XK), RoomG k (A.deeper (envOfC qual scope s.heap.objs.size f cdv)) → sp vs H Q E →
      ∃ t, PSs (cxOf CX P w K mg base N qual scope f cdv A outer s H E) body t ∧ t { nx := fun _ H' => Q .non H', rt := Q } (start N vs) H) :
    FnG P w K mg base CX (k + 1) f (PySem.W.fnOf name qual params body scope dV kV doc pm an cdv ct) ps sp := by
  refine ⟨len, fun A outer s H args us vs Q E hr e0 hb r hsp => ?_⟩
  have hl := len _ _ _ _ hsp
  have KX : K.In s.heap := e0.mod.kin.keeps fun b o e => (e0.bs b o e).1
  have lim : s.heap.NoLimit := e0.mod.nolimit.keeps fun b o e => (e0.bs b o e).1
  have hkind : ∀ y ∈ ps.zip us, scope.names.lookup y.1 = some .local ∨ (scope.names.lookup y.1 = some .cell ∧ ((cellsFrom (s.heap.objs.size + 1) scope.names []).lookup y.1).isSome = true) := fun ⟨n, v⟩ hy =>
    (S.par n (List.of_mem_zip hy).1).imp id fun q => ⟨q, PySem.W.cellsFrom_some _ _ _ (.inl q)⟩
  refine codeAny_call_function hr.r.depth (KX _ _ lk) rfl S.co S.gen rfl (PySem.W.codeRec_of KX hcd) (hb _ _ _ _ ?_)
  refine wpAny_newFunctionEnv_cells S.kind hkind fun env he s1 x => ?_
  subst he
  refine ⟨lim.keeps x.toInCall.keep, codeAny_func ?_⟩
  obtain ⟨t, ht, hq⟩ := hbody A outer s H vs Q E (hr.deeper _) hsp
  refine wpAny_mono (ht.run [] s1 (start N vs) H _ (inv_start S hr.r.hd e0 hl r x) hq) (fun fl s' hs => ?_) fun e s' hs => hs
  have fin : ∀ {σ' : L2.St} {H' : Hp} {v : V} {u : Value}, Inv (cxOf CX P w K mg base N qual scope f cdv A outer s H E) [] σ' H' s' → RelV v u → Q v H' → CE outer P w H s Q u s' :=
    fun {σ' H' v u} J rv q => ⟨v, H', J.os, J.bare, J.base, J.hok, rv, q⟩
  cases fl with
  | ret u => obtain ⟨v, σ', H', J, rv, q⟩ := hs; exact fin J rv q
  | next => obtain ⟨σ', H', J, q⟩ := hs; exact fin (v := V.non) (u := Value.none) J rfl q
  | brk => obtain ⟨_, _, _, q⟩ := hs; exact False.elim q
  | cont => obtain ⟨_, _, _, q⟩ := hs; exact False.elim q
section
variable {X : Cx} {k : Nat} {f : Addr} {fd : FuncData} {ps : List Str} {sp : Sp} {E : L2.St → XK} {CX : CXT}
theorem run_fnG {pins : List (Addr × Obj)} {σ : L2.St} {H : Hp} {s : Shared} {Q : VK} {us : List Value} {vs : List V} (F : FnG X.prog X.w X.K X.mg X.base CX k f fd ps sp) (hr : RoomG k X.A) (hb : Binds X.K fd ps []) (hx : PassesAt CX X σ (E σ))
    (I : Inv X pins σ H s) (r : Vals vs us) (h : sp vs H Q (E σ)) : wpAny (model X.prog X.w) X.A (call (.ref f) us) (EP X pins σ Q) X.xe s := by
  have hl : us.length = ps.length := by rw [← r.length]; exact F.len _ _ _ _ h
  have b := hb s us I.kIn (by rw [List.append_nil]; exact hl)
  rw [List.append_nil] at b
  refine wpAny_call (codeAny_mono (F.run X.A X.stack s H ⟨us, []⟩ us vs Q (E σ) hr I.env0 b r h) fun r s' hq => ?_)
  cases r with
  | error e => exact hx pins H s e s' I hq
  | ok fl =>
    cases fl with
    | ret u => exact I.after hq
    | next => exact False.elim hq
    | brk => exact False.elim hq
    | cont => exact False.elim hq
end
inductive RpX (K : PySem.W.Frag) (mg : Str → Option Value) (H : Hp) : Exc → Value → Option Addr → Prop where
  | own {e : Exc} {C d : Addr} {fs : List (Str × V)} : mg e.cls = some (.ref C) → H d = some (.xd fs) → fs.map (·.1) = e.fs.map (·.1) → RpL K mg H (e.fs.map (·.2)) (fs.map (·.2)) → RpX K mg H e (.ref C) (some d)
  | bare {e : Exc} {C : Addr} : mg e.cls = some (.ref C) → e.fs = [] → RpX K mg H e (.ref C) none
def KtX (K : PySem.W.Frag) (mg : Str → Option Value) (S : Sto) (H : Hp) (P : Exc → Sto → Prop) (E : XK) : Prop :=
  ∀ e S' cls d H', Tr S H S' H' → StO K mg S' H' → RpX K mg H' e cls d → P e S' → E cls d H'
def upW (K : PySem.W.Frag) (mg : Str → Option Value) (Z : Zb) (EX : EXn) : WX := fun cls d σ H => ∃ e ρ S, RpS K mg H ρ σ ∧ StO K mg S H ∧ Tr Z.S Z.H S H ∧ RpX K mg H e cls d ∧ EX e ρ S
def xNo : EXn := fun _ _ _ => False
theorem takesNo {X : Cx} {Z : Zb} : L2N.Takes X (upW X.K X.mg Z xNo) := fun u s' x => by
  obtain ⟨a, B, sI, pins, σ, H, cls, d, e, I, nb, up, sky, na, os, ag, w⟩ := x
  obtain ⟨_, _, _, _, _, _, _, z⟩ := w
  exact z.elim
abbrev FSp := List D → Sto → DQ → (Exc → Sto → Prop) → Prop
def lift (K : PySem.W.Frag) (mg : Str → Option Value) (sp : FSp) : Sp := fun vs H Q E => ∃ ds S P EP, RpL K mg H ds vs ∧ StO K mg S H ∧ sp ds S P EP ∧ Kt K mg S H P Q ∧ KtX K mg S H EP E
structure Callee (P : Program) (w : World) (K : PySem.W.Frag) (mg : Str → Option Value) (base : Heap) (k : Nat) (x : Str) (sp : FSp) : Prop where
  ex : ∃ (f : Addr) (fd : FuncData) (ps : List Str), mg x = some (.ref f) ∧ PySem.W.keepIn K (.ref f) = true ∧ Binds K fd ps [] ∧ FnG P w K mg base (L2N.CX P w) k f fd ps (lift K mg sp)
def dFn (sp : FSp) (EX : EXn) (t : DA) : DE := fun ρ S Q => t ρ S fun ds S1 => sp ds S1 Q fun e S2 => EX e ρ S2
section
variable {X : Cx} {Z : Zb} {e : Expr} {es : List Expr} {t : DA} {x : Str} {p pos : Pos} {k : Nat} {sp : FSp} {EX : EXn}
theorem lift_run {Z : Zb} {EX : EXn} {σ : L2.St} {H H1 : Hp} {ρ : Nv} {S S1 : Sto} {P : DQ} {Q : VK} {ds : List D} {vs : List V} (r : RpS X.K X.mg H ρ σ) (s : StO X.K X.mg S H) (z : Tr Z.S Z.H S H) (kk : Kt X.K X.mg S H P Q) (t1 : Tr S H S1 H1) (s1 : StO X.K X.mg S1 H1) (rx : RpL X.K X.mg H1 ds vs)
    (h : sp ds S1 P fun e S2 => EX e ρ S2) : lift X.K X.mg sp vs H1 Q (WE (upW X.K X.mg Z EX) σ) :=
  ⟨ds, S1, P, _, rx, s1, h, kk.at t1, fun e S2 cls d H2 t2 s2 re he => ⟨e, ρ, S2, (t1.trans t2).rpS s r, s2, z.trans (t1.trans t2), re, he⟩⟩
theorem s_fn (C : Callee X.prog X.w X.K X.mg X.base k x sp) (hr : RoomG k X.A) (tk : L2N.Takes X (upW X.K X.mg Z EX)) (hg : Gl X x) (ha : SA X Z (e :: es) t) (hdb : (x == ("__debug__" : Str)) = false)
    (he : starEach (e :: es) X.env = (false, eval e X.env) :: starEach es X.env) (hpl : (backTo pos (starEach es X.env)).any (·.1) = false) : SE X Z (.Call (.Name x p) (e :: es) [] pos) (dFn sp EX t) := by
  obtain ⟨f, fd, ps, hm, hk, hb, F⟩ := C.ex
  refine ⟨fun pins s σ H Q I ⟨ρ, S, P, r, st, z, h, kk⟩ => ?_⟩
  refine wpAny_Call_Name_kw (ld_glob I hg hm ?_ hdb)
  refine PySem.W.callWith_K (h₀ := X.base) I.ok.mod.kin hk (thn (ha.run pos pins s σ H (fun vs H1 => lift X.K X.mg sp vs H1 Q (WE (upW X.K X.mg Z EX) σ)) I ⟨ρ, S, _, r, st, z, h, fun ds S1 vs H1 t1 s1 rx h1 => lift_run r st z kk t1 s1 rx h1⟩) fun us s1 ⟨vs, H1, I1, rv, q⟩ => ⟨I1.kIn, ?_⟩) he hpl
  exact run_fnG F hr hb (L2N.passAt tk σ) I1 rv q
end
def startD (n : Nat) (ds : List D) : Nv := ds.map some ++ List.replicate (n - ds.length) none
theorem rpS_start {K : PySem.W.Frag} {mg : Str → Option Value} {H : Hp} {ds : List D} {vs : List V} (r : RpL K mg H ds vs) (N : List Str) : RpS K mg H (startD N.length ds) (L2.start N vs) := by
  have hl := r.length
  refine ⟨by unfold startD L2.start; simp [hl], fun i d e => ?_⟩
  unfold startD at e
  by_cases hi : i < ds.length
  · rw [List.getElem?_append_left (by simpa using hi), List.getElem?_map] at e
    cases e2 : ds[i]? with
    | none => rw [e2] at e; cases e
    | some d' =>
      rw [e2] at e
      cases e
      obtain ⟨v, h1, h2⟩ := r.get e2
      refine ⟨v, ?_, h2⟩
      unfold L2.start
      rw [List.getElem?_append_left (by rw [List.length_map]; omega), List.getElem?_map, h1]; rfl
  · rw [List.getElem?_append_right (by simpa using hi)] at e
    rw [List.getElem?_replicate] at e
    split at e <;> cases e
section
variable {P : Program} {w : World} {K : PySem.W.Frag} {mg : Str → Option Value} {base : Heap}
abbrev cxD (P : Program) (w : World) (K : PySem.W.Frag) (mg : Str → Option Value) (base : Heap) (N : List Str) (qual : Str) (st : Stmt) (f : Addr) (cdv : Value) (A : Around) (outer : List Env) (s : Shared) (H : Hp) (E : XK) : Cx :=
  cxOf (L2N.CX P w) P w K mg base N qual (defScope st) f cdv A outer s H E
theorem callee_of {x qual : Str} {st : Stmt} {f : Addr} {fd : FuncData} {N ps : List Str} {k : Nat} {sp : FSp} {t : (Exc → Sto → Prop) → DS} (F : Fun K x qual st f fd) (hm : mg x = some (.ref f)) (S : FnScope N ps (defScope st)) (hb : Binds K fd ps [])
    (len : ∀ ds S P EP, sp ds S P EP → ds.length = ps.length)
    (hbody : ∀ (cdv : Value) (A : Around) (outer : List Env) (s : Shared) (H : Hp) (E : XK) (Z : Zb) (EP : Exc → Sto → Prop), RoomG k (A.deeper (envOfC qual (defScope st) s.heap.objs.size f cdv)) →
      L2N.Takes (cxD P w K mg base N qual st f cdv A outer s H E) (upW K mg Z fun e _ S' => EP e S') → SSs (cxD P w K mg base N qual st f cdv A outer s H E) Z (defBody st) (t EP))
    (pure : ∀ ds S Q EP, sp ds S Q EP → t EP { nx := fun _ S' => Q .non S', rt := Q } (startD N.length ds) S) : Callee P w K mg base (k + 1) x sp := by
  obtain ⟨⟨oc, od, kV, doc, pm, an, cdv, ct, osl, rfl, lk, hcd⟩, kp⟩ := F
  refine ⟨f, _, ps, hm, kp, hb, fnG_of lk hcd S (fun vs H Q E ⟨ds, S', P', EP, rl, st', h, _, _⟩ => by rw [← rl.length]; exact len _ _ _ _ h) fun A outer s H vs Q E hr ⟨ds, S', P', EP, rl, st', h, kk, kx⟩ => ?_⟩
  have tk : L2N.Takes (cxD P w K mg base N qual st f cdv A outer s H E) (upW K mg ⟨S', H⟩ fun e _ S' => EP e S') :=
    L2N.Takes.imp (L2N.takes_of rfl rfl rfl rfl) fun cls d σ H2 ⟨e, ρ, S2, r2, s2, z2, re, he⟩ => kx e S2 cls d H2 z2 s2 re he
  refine ⟨_, hbody cdv A outer s H E ⟨S', H⟩ EP hr tk, ?_⟩
  refine ⟨startD N.length ds, S', _, rpS_start rl N, st', Tr.refl _ _, pure ds S' P' EP h, ⟨fun ρ' S2 σ' H' t' s' r' h' => kk _ _ _ _ t' s' .non h', kk, fun _ _ _ _ _ _ _ z => z.elim, fun _ _ _ _ _ _ _ z => z.elim⟩⟩
end
end DL
set_option Elab.async false
set_option linter.all false
set_option maxRecDepth 100000
set_option maxHeartbeats 4000000
namespace DL
open PySem PySem.Spec PyProof.Rows L2 RZ
section
variable {X : Cx} {Z : Zb} {K : PySem.W.Frag} {mg : Str → Option Value}
end
end DL
set_option Elab.async false
set_option linter.all false
set_option maxRecDepth 100000
set_option maxHeartbeats 4000000
namespace DL
open PySem PySem.Spec PyProof.Rows L2 RZ
theorem RoomG.u64 {k : Nat} {A : Around} (r : RoomG k A) : A.units + 64 < cLine := r.r.units
theorem RoomG.u65 {k : Nat} {A : Around} (r : RoomG k A) : A.units + 65 < cLine := by have := r.r.un; omega
theorem RoomG.u1 {k : Nat} {A : Around} (r : RoomG k A) : A.units + 1 < cLine := by have := r.r.un; omega
section
variable {X : Cx} {Z : Zb} {K : PySem.W.Frag} {mg : Str → Option Value} {a b c : Expr} {pos : Pos}
def dI2 (f : Int → Int → Int) : D2 := fun x y S Q => match x, y with
  | .int i, .int j => Q (.int (f i j)) S
  | _, _ => False
theorem ipI_ok (f : Int → Int → Int) : Op2 K mg (ipI f) (dI2 f) := by
  intro S H x y v u P Q s rx ry h k
  cases rx <;> cases ry <;> first
    | exact h.elim
    | exact ⟨_, _, rfl, rfl, k.now s (.int _) h⟩
abbrev xF (EP : Exc → Sto → Prop) : EXn := fun e _ S => EP e S
theorem rg_rp {H : Hp} {a b : Int} : RpL K mg H (rngD a (b - a).toNat) (rgV a b) := by
  refine RpL.of_get (by unfold rngD rgV; simp) fun i d v e1 e2 => ?_
  unfold rngD at e1
  unfold rgV at e2
  rw [List.getElem?_map] at e1 e2
  cases e : (List.range (b - a).toNat)[i]? with
  | none => rw [e] at e1; cases e1
  | some j =>
    rw [e] at e1 e2
    cases e1; cases e2
    exact .int _
variable {ta tb : DE} {p p2 pos2 : Pos}
def dRg1 (ta : DE) : Nv → Sto → (Int → Int → Sto → Prop) → Prop := fun ρ S P => ta ρ S fun x S1 => ∃ n, x = .int n ∧ P 0 n S1
def dRg2 (ta tb : DE) : Nv → Sto → (Int → Int → Sto → Prop) → Prop := fun ρ S P => ta ρ S fun x S1 => tb ρ S1 fun y S2 => ∃ i j, x = .int i ∧ y = .int j ∧ P i j S2
def dLrg (t : Nv → Sto → (Int → Int → Sto → Prop) → Prop) : DE := fun ρ S Q => t ρ S fun a b S1 => RgOk a b ∧ ∀ p, S1 p = none → Q (.ref p) (up1 S1 p (.lst (rngD a (b - a).toNat)))
def dTrg (t : Nv → Sto → (Int → Int → Sto → Prop) → Prop) : DE := fun ρ S Q => t ρ S fun a b S1 => RgOk a b ∧ Q (.tup (rngD a (b - a).toNat)) S1
theorem s_lrng2 (hl : Gl X "list") (hlm : X.mg "list" = none) (hc : X.calm = true) (hg : Gl X "range") (hm : X.mg "range" = none) (ha : SE X Z a ta) (hb : SE X Z b tb) (na : starEach [a, b] X.env = (false, eval a X.env) :: starEach [b] X.env) (nb : starEach [b] X.env = (false, eval b X.env) :: starEach [] X.env) (hp : (backTo pos2 (starEach [b] X.env)).any (·.1) = false)
    (nr : starEach [.Call (.Name "range" p2) [a, b] [] pos2] X.env = (false, eval (.Call (.Name "range" p2) [a, b] [] pos2) X.env) :: starEach [] X.env) : SE X Z (.Call (.Name "list" p) [.Call (.Name "range" p2) [a, b] [] pos2] [] pos) (dLrg (dRg2 ta tb)) := by
  refine peI (pe_listRg hc hl hlm (prg_2 hg hm ha hb na nb hp) nr) fun σ H Q ⟨ρ, S, P, r, s, z, h, k⟩ => ?_
  refine ⟨ρ, S, _, r, s, z, h, fun x S1 v H1 t1 s1 rx h1 => ?_⟩
  refine ⟨ρ, S1, _, t1.rpS s r, s1, z.trans t1, h1, fun y S2 u H2 t2 s2 ry ⟨i, j, e1, e2, ok, h2⟩ => ?_⟩
  subst e1 e2; cases rx; cases ry
  exact ⟨i, j, rfl, rfl, ok, (k.at (t1.trans t2)).newL s2 rg_rp h2⟩
end
end DL
namespace DL
open PySem PySem.Spec PyProof.Rows L2 RZ
theorem Callee.mono {P : Program} {w : World} {K : PySem.W.Frag} {mg : Str → Option Value} {base : Heap} {j k : Nat} {x : Str} {sp : FSp} (C : Callee P w K mg base j x sp) (h : j ≤ k) : Callee P w K mg base k x sp := by
  obtain ⟨f, fd, ps, h1, h2, h3, F⟩ := C.ex
  exact ⟨f, fd, ps, h1, h2, h3, F.len, fun A outer s H args us vs Q E hr => F.run A outer s H args us vs Q E (hr.mono h)⟩
theorem Callee.imp {P : Program} {w : World} {K : PySem.W.Frag} {mg : Str → Option Value} {base : Heap} {k : Nat} {x : Str} {sp sp' : FSp} (C : Callee P w K mg base k x sp) (h : ∀ ds S Q EP, sp' ds S Q EP → sp ds S Q EP) : Callee P w K mg base k x sp' := by
  obtain ⟨f, fd, ps, h1, h2, h3, F⟩ := C.ex
  have l : ∀ vs H Q E, lift K mg sp' vs H Q E → lift K mg sp vs H Q E := fun vs H Q E ⟨ds, S, P, EP, a, b, c, d, e⟩ => ⟨ds, S, P, EP, a, b, h _ _ _ _ c, d, e⟩
  exact ⟨f, fd, ps, h1, h2, h3, fun vs H Q E q => F.len vs H Q E (l _ _ _ _ q), fun A outer s H args us vs Q E hr e0 hb hv hs => F.run A outer s H args us vs Q E hr e0 hb hv (l _ _ _ _ hs)⟩
end DL
set_option Elab.async false
set_option linter.all false
set_option maxRecDepth 100000
set_option maxHeartbeats 4000000
namespace DL
open PySem L2
def Ext (S S' : Sto) : Prop := ∀ a c, S a = some c → S' a = some c
theorem Ext.refl (S : Sto) : Ext S S := fun _ _ h => h
theorem Ext.trans {S S1 S2 : Sto} (a : Ext S S1) (b : Ext S1 S2) : Ext S S2 := fun p c h => b p c (a p c h)
theorem Ext.new {S : Sto} {p : Addr} {c : Cell} (h : S p = none) : Ext S (up1 S p c) := fun a c' e => by
  rw [up1_ne (fun z => by rw [z, h] at e; cases e)]; exact e
def ExtB (a : Addr) (S S' : Sto) : Prop := ∀ b c, b ≠ a → S b = some c → S' b = some c
theorem ExtB.refl (a : Addr) (S : Sto) : ExtB a S S := fun _ _ _ h => h
theorem ExtB.trans {a : Addr} {S S1 S2 : Sto} (x : ExtB a S S1) (y : ExtB a S1 S2) : ExtB a S S2 := fun p c n h => y p c n (x p c n h)
theorem Ext.but {a : Addr} {S S' : Sto} (h : Ext S S') : ExtB a S S' := fun b c _ e => h b c e
theorem ExtB.wrote {a : Addr} {S : Sto} {c : Cell} : ExtB a S (up1 S a c) := fun b c' n e => by rw [up1_ne n]; exact e
theorem ne_cell {S : Sto} {a b : Addr} {c c' : Cell} (h : S a = some c) (h' : S b = some c') (n : c ≠ c') : a ≠ b := fun e => by
  subst e; rw [h] at h'; cases h'; exact n rfl
theorem ne_new {S : Sto} {a p : Addr} {c : Cell} (h : S a = some c) (n : S p = none) : a ≠ p := fun e => by subst e; rw [h] at n; cases n
def getV : Nv → Nat → (D → Prop) → Prop
  | some d :: _, 0, P => P d
  | _ :: r, i + 1, P => getV r i P
  | _, _, _ => False
theorem getV_get : ∀ {ρ : Nv} {i : Nat} {P : D → Prop}, getV ρ i P → ∃ d, ρ[i]? = some (some d) ∧ P d
  | some d :: _, 0, _, h => ⟨d, rfl, h⟩
  | none :: _, 0, _, h => h.elim
  | [], 0, _, h => h.elim
  | [], _ + 1, _, h => h.elim
  | some _ :: r, i + 1, P, h => by
    obtain ⟨d, e, q⟩ := getV_get (ρ := r) (i := i) (P := P) h
    exact ⟨d, by simpa using e, q⟩
  | none :: r, i + 1, P, h => by
    obtain ⟨d, e, q⟩ := getV_get (ρ := r) (i := i) (P := P) h
    exact ⟨d, by simpa using e, q⟩
theorem getV_of : ∀ {ρ : Nv} {i : Nat} {P : D → Prop} {d : D}, ρ[i]? = some (some d) → P d → getV ρ i P
  | some d :: _, 0, _, _, e, h => by simp at e; subst e; exact h
  | none :: _, 0, _, _, e, _ => by simp at e
  | [], _, _, _, e, _ => by simp at e
  | some _ :: r, i + 1, P, d, e, h => getV_of (ρ := r) (i := i) (P := P) (d := d) (by simpa using e) h
  | none :: r, i + 1, P, d, e, h => getV_of (ρ := r) (i := i) (P := P) (d := d) (by simpa using e) h
theorem getV_0 {d : D} {r : Nv} {P : D → Prop} : getV (some d :: r) 0 P = P d := rfl
theorem getV_s {o : Option D} {r : Nv} {i : Nat} {P : D → Prop} : getV (o :: r) (i + 1) P = getV r i P := by cases o <;> rfl
theorem set_0 {α : Type} {x y : α} {r : List α} : (x :: r).set 0 y = y :: r := rfl
theorem set_s {α : Type} {x y : α} {r : List α} {i : Nat} : (x :: r).set (i + 1) y = x :: r.set i y := rfl
theorem startD_nil {n : Nat} : startD n [] = List.replicate n none := rfl
theorem startD_cons {n : Nat} {d : D} {ds : List D} : startD (n + 1) (d :: ds) = some d :: startD n ds := by
  unfold startD
  simp only [List.map_cons, List.cons_append, List.length_cons, Nat.reduceSubDiff, Nat.add_sub_add_right]
theorem rep_0 {α : Type} {x : α} : List.replicate 0 x = [] := rfl
theorem rep_s {α : Type} {x : α} {n : Nat} : List.replicate (n + 1) x = x :: List.replicate n x := rfl
theorem wipe_nil {ρ : Nv} : wipeD ρ [] = ρ := rfl
theorem wipe_cons {ρ : Nv} {v : Nat} {vs : List Nat} : wipeD ρ (v :: vs) = (wipeD ρ vs).set v none := rfl
def isB (x : D) (P : Bool → Prop) : Prop := match x with
  | .bl k => P k
  | _ => False
def isN (x : D) (P : Int → Prop) : Prop := match x with
  | .int k => P k
  | _ => False
theorem isB_of {x : D} {P : Bool → Prop} (h : isB x P) : ∃ k, x = .bl k ∧ P k := by cases x <;> first | exact h.elim | exact ⟨_, rfl, h⟩
theorem isB_eq {x : D} {P : Bool → Prop} : (∃ k, x = .bl k ∧ P k) = isB x P := by
  apply propext
  exact ⟨fun ⟨k, e, h⟩ => by subst e; exact h, isB_of⟩
theorem isN_eq {x : D} {P : Int → Prop} : (∃ k, x = .int k ∧ P k) = isN x P := by
  apply propext
  refine ⟨fun ⟨k, e, h⟩ => by subst e; exact h, fun h => ?_⟩
  cases x <;> first | exact h.elim | exact ⟨_, rfl, h⟩
theorem isB_bl {b : Bool} {P : Bool → Prop} : isB (.bl b) P = P b := rfl
theorem isN_int {i : Int} {P : Int → Prop} : isN (.int i) P = P i := rfl
def lstAt (S : Sto) (a : Addr) (P : List D → Prop) : Prop := match S a with
  | some (.lst ds) => P ds
  | _ => False
theorem lstAt_of {S : Sto} {a : Addr} {ds : List D} {P : List D → Prop} (h : S a = some (.lst ds)) (p : P ds) : lstAt S a P := by
  unfold lstAt; rw [h]; exact p
theorem lstAt_inv {S : Sto} {a : Addr} {P : List D → Prop} (h : lstAt S a P) : ∃ ds, S a = some (.lst ds) ∧ P ds := by
  unfold lstAt at h
  cases e : S a with
  | none => rw [e] at h; exact False.elim h
  | some c =>
    rw [e] at h
    cases c with
    | lst ds => exact ⟨ds, rfl, h⟩
    | dK _ _ => exact h.elim
    | dT _ _ => exact h.elim
    | rng _ _ => exact h.elim
theorem lstAt_eq {S : Sto} {a : Addr} {P : List D → Prop} : (∃ ds, S a = some (.lst ds) ∧ P ds) = lstAt S a P := propext ⟨fun ⟨_, h, p⟩ => lstAt_of h p, lstAt_inv⟩
theorem lstAt_known {S : Sto} {a : Addr} {ds : List D} {P : List D → Prop} (h : S a = some (.lst ds)) : lstAt S a P = P ds := by
  unfold lstAt; rw [h]
def someD {α : Type} (o : Option α) (P : α → Prop) : Prop := match o with
  | some d => P d
  | none => False
theorem someD_some {α : Type} {d : α} {P : α → Prop} : someD (some d) P = P d := rfl
theorem someD_eq {α : Type} {o : Option α} {P : α → Prop} : (∃ d, o = some d ∧ P d) = someD o P := by
  apply propext
  cases o with
  | none => exact ⟨fun ⟨_, h, _⟩ => (nomatch h), fun h => False.elim h⟩
  | some d => exact ⟨fun ⟨_, h, p⟩ => by cases h; exact p, fun p => ⟨d, rfl, p⟩⟩
theorem at0 {α : Type} {x : α} {xs : List α} : atI (x :: xs) 0 = some x := by unfold atI ixN; simp
theorem at1 {α : Type} {x y : α} {xs : List α} : atI (x :: y :: xs) 1 = some y := by
  unfold atI ixN
  rw [if_pos (by decide), if_pos (by simp; omega)]; rfl
theorem at2 {α : Type} {x y z : α} {xs : List α} : atI (x :: y :: z :: xs) 2 = some z := by
  unfold atI ixN
  rw [if_pos (by decide), if_pos (by simp; omega)]; rfl
theorem at3 {α : Type} {x y z w : α} {xs : List α} : atI (x :: y :: z :: w :: xs) 3 = some w := by
  unfold atI ixN
  rw [if_pos (by decide), if_pos (by simp; omega)]; rfl
theorem at4 {α : Type} {x y z w v : α} {xs : List α} : atI (x :: y :: z :: w :: v :: xs) 4 = some v := by
  unfold atI ixN
  rw [if_pos (by decide), if_pos (by simp; omega)]; rfl
theorem at5 {α : Type} {x y z w v u : α} {xs : List α} : atI (x :: y :: z :: w :: v :: u :: xs) 5 = some u := by
  unfold atI ixN
  rw [if_pos (by decide), if_pos (by simp; omega)]; rfl
theorem atn {α : Type} {xs : List α} {n : Nat} {x : α} (h : xs[n]? = some x) : atI xs (n : Int) = some x := by
  have hl := (List.getElem?_eq_some_iff.mp h).1
  unfold atI ixN
  rw [if_pos (by omega), if_pos (by omega)]
  simpa using h
theorem ixn {n k : Nat} (h : k < n) : ixN n (k : Int) = some k := by
  unfold ixN
  rw [if_pos (by omega), if_pos (by omega)]; simp
theorem ix4_0 : ixN 4 0 = some 0 := rfl
theorem ix4_1 : ixN 4 1 = some 1 := rfl
theorem ix4_2 : ixN 4 2 = some 2 := rfl
theorem len4 {α : Type} {x y z w : α} : [x, y, z, w].length = 4 := rfl
theorem up_up {S : Sto} {a : Addr} {c c' : Cell} : up1 (up1 S a c) a c' = up1 S a c' := by
  funext b
  by_cases h : b = a
  · subst h; rw [up1_same, up1_same]
  · rw [up1_ne h, up1_ne h, up1_ne h]
section
variable {ρ : Nv} {S : Sto} {Q : DQ} {QB : Bool → Sto → Prop} {QA : List D → Sto → Prop} {D' : DEnds} {ta tb tc : DE} {tA tB : DT} {t u : DS} {x y z : D} {xs ys : List D}
theorem ap_dC : dC x ρ S Q = Q x S := rfl
theorem ap_dVar {i : Nat} : dVar i ρ S Q = getV ρ i fun d => Q d S := by
  apply propext
  exact ⟨fun ⟨d, e, h⟩ => getV_of e h, fun h => by obtain ⟨d, e, q⟩ := getV_get h; exact ⟨d, e, q⟩⟩
theorem ap_dNil : dNil ρ S QA = QA [] S := rfl
theorem ap_dCons {v : DA} : dCons ta v ρ S QA = ta ρ S fun d S1 => v ρ S1 fun ds S2 => QA (d :: ds) S2 := rfl
theorem ap_dTup {v : DA} : dTup v ρ S Q = v ρ S fun ds S1 => ds.length ≤ sizeLine ∧ Q (.tup ds) S1 := rfl
theorem ap_dLst {v : DA} : dLst v ρ S Q = v ρ S fun ds S1 => ds.length ≤ sizeLine ∧ ∀ p, S1 p = none → Q (.ref p) (up1 S1 p (.lst ds)) := rfl
theorem ap_dOp {o : D2} : dOp o ta tb ρ S Q = ta ρ S fun x S1 => tb ρ S1 fun y S2 => o x y S2 Q := rfl
theorem ap_dB : dB ta ρ S QB = ta ρ S fun x S1 => isB x fun k => QB k S1 := by unfold dB; simp only [isB_eq]
theorem ap_dChain {o o' : D2} : dChain o o' ta tb tc ρ S Q = ta ρ S fun x S1 => tb ρ S1 fun y S2 => o x y S2 fun z S3 => isB z fun k => if k = true then tc ρ S3 fun w S4 => o' y w S4 Q else Q (.bl false) S3 := by unfold dChain; simp only [isB_eq]
theorem ap_dTru : dTru ta ρ S QB = ta ρ S fun x S1 => truD x S1 QB := rfl
theorem ap_dAndT : dAndT tA tB ρ S QB = tA ρ S fun c S1 => if c = true then tB ρ S1 QB else QB false S1 := rfl
theorem ap_dOrT : dOrT tA tB ρ S QB = tA ρ S fun c S1 => if c = true then QB true S1 else tB ρ S1 QB := rfl
theorem ap_dNotT : dNotT tA ρ S QB = tA ρ S fun c S1 => QB (!c) S1 := rfl
theorem ap_dAndV : dAndV ta tb ρ S Q = ta ρ S fun x S1 => truD x S1 fun c S2 => if c = true then tb ρ S2 Q else Q x S2 := rfl
theorem ap_dOrV : dOrV ta tb ρ S Q = ta ρ S fun x S1 => truD x S1 fun c S2 => if c = true then Q x S2 else tb ρ S2 Q := rfl
theorem ap_dNotV : dNotV ta ρ S Q = ta ρ S fun x S1 => truD x S1 fun c S2 => Q (.bl (!c)) S2 := rfl
theorem ap_dIf : dIf tA ta tb ρ S Q = tA ρ S fun c S1 => if c = true then ta ρ S1 Q else tb ρ S1 Q := rfl
theorem ap_dUn {o : D1} : dUn o ta ρ S Q = ta ρ S fun x S1 => o x S1 Q := rfl
theorem ap_dCall {o : DN} {v : DA} : dCall o v ρ S Q = v ρ S fun xs S1 => o xs S1 Q := rfl
theorem ap_dNoPart {P : Option Int → Sto → Prop} : dNoPart ρ S P = P none S := rfl
theorem ap_dPart {P : Option Int → Sto → Prop} : dPart ta ρ S P = ta ρ S fun x S1 => isN x fun i => P (some i) S1 := by unfold dPart; simp only [isN_eq]
theorem ap_dSl {o : DSl} {tl th : DO} : dSl o ta tl th ρ S Q = ta ρ S fun x S1 => tl ρ S1 fun l S2 => th ρ S2 fun u S3 => o x l u S3 Q := rfl
theorem ap_dBM {T : String} {o : DM} {v : DA} : dBM T o ta v ρ S Q = ta ρ S fun x S1 => tyD T x S1 ∧ v ρ S1 fun xs S2 => o x xs S2 Q := rfl
theorem ap_dBM0 {T : String} {o : DM} : dBM0 T o ta ρ S Q = ta ρ S fun x S1 => tyD T x S1 ∧ o x [] S1 Q := rfl
theorem ap_dFn {sp : FSp} {EX : EXn} {v : DA} : dFn sp EX v ρ S Q = v ρ S fun ds S1 => sp ds S1 Q fun e S2 => EX e ρ S2 := rfl
theorem ap_dLc {wi : DI} {g : DG} {tt : DT} {te : DE} {vs : List Nat} : dLc wi g tt te vs ρ S Q = wi ρ S fun its chk S1 => its.length ≤ sizeLine ∧ lcD chk g tt te (wipeD ρ vs) its S1 fun ds S2 => ∀ p, S2 p = none → Q (.ref p) (up1 S2 p (.lst ds)) := rfl
theorem ap_dYes : dYes ρ S QB = QB true S := rfl
theorem ap_dRg1 {P : Int → Int → Sto → Prop} : dRg1 ta ρ S P = ta ρ S fun x S1 => isN x fun n => P 0 n S1 := by unfold dRg1; simp only [isN_eq]
theorem ap_dRg2 {P : Int → Int → Sto → Prop} : dRg2 ta tb ρ S P = ta ρ S fun x S1 => tb ρ S1 fun y S2 => isN x fun i => isN y fun j => P i j S2 := by
  unfold dRg2
  have : ∀ (x y : D) (S2 : Sto), (∃ i j, x = .int i ∧ y = .int j ∧ P i j S2) = isN x fun i => isN y fun j => P i j S2 := fun x y S2 => by
    rw [← isN_eq]
    apply propext
    exact ⟨fun ⟨i, j, a, b, c⟩ => ⟨i, a, by rw [b]; exact c⟩, fun ⟨i, a, h⟩ => by rw [← isN_eq] at h; obtain ⟨j, b, c⟩ := h; exact ⟨i, j, a, b, c⟩⟩
  simp only [this]
theorem ap_dLrg {w : Nv → Sto → (Int → Int → Sto → Prop) → Prop} : dLrg w ρ S Q = w ρ S fun a b S1 => RgOk a b ∧ ∀ p, S1 p = none → Q (.ref p) (up1 S1 p (.lst (rngD a (b - a).toNat))) := rfl
theorem ap_dTrg {w : Nv → Sto → (Int → Int → Sto → Prop) → Prop} : dTrg w ρ S Q = w ρ S fun a b S1 => RgOk a b ∧ Q (.tup (rngD a (b - a).toNat)) S1 := rfl
theorem ap_iAny {P : List D → (Sto → Prop) → Sto → Prop} : iAny ta ρ S P = ta ρ S fun x S1 => sqD x S1 fun ds chk => P ds chk S1 := by
  unfold iAny
  refine congrArg (ta ρ S) (funext fun x => funext fun S1 => ?_)
  cases x <;> rfl
theorem ap_iRng1 {v : DA} {P : List D → (Sto → Prop) → Sto → Prop} : iRng1 v ρ S P = v ρ S (rng1P P) := rfl
theorem ap_iRng2 {v : DA} {P : List D → (Sto → Prop) → Sto → Prop} : iRng2 v ρ S P = v ρ S (rng2P P) := rfl
theorem ap_iRng3 {v : DA} {P : List D → (Sto → Prop) → Sto → Prop} : iRng3 v ρ S P = v ρ S (rng3P P) := rfl
theorem ap_rng1P {P : List D → (Sto → Prop) → Sto → Prop} {j : Int} : rng1P P [.int j] S = (-(2 ^ 62) ≤ j ∧ j < 2 ^ 62 ∧ P (rngD 0 j.toNat) (fun _ => True) S) := rfl
theorem ap_rng2P {P : List D → (Sto → Prop) → Sto → Prop} {i j : Int} : rng2P P [.int i, .int j] S = ((-(2 ^ 62) ≤ i ∧ i < 2 ^ 62 ∧ -(2 ^ 62) ≤ j ∧ j < 2 ^ 62) ∧ P (rngD i (j - i).toNat) (fun _ => True) S) := rfl
theorem ap_rng3P {P : List D → (Sto → Prop) → Sto → Prop} {i j c : Int} : rng3P P [.int i, .int j, .int c] S = (c = -1 ∧ (-(2 ^ 62) ≤ i ∧ i < 2 ^ 62 ∧ -(2 ^ 62) ≤ j ∧ j < 2 ^ 62) ∧ P ((List.range (i - j).toNat).map fun k => D.int (i - (k : Nat))) (fun _ => True) S) := rfl
theorem ap_iZip {v : DA} {P : List D → (Sto → Prop) → Sto → Prop} : iZip v ρ S P = dZ2 v ρ S fun xs ys chk S1 => P (zipD xs ys) chk S1 := rfl
theorem ap_dLzip {v : DA} : dLzip v ρ S Q = dZ2 v ρ S fun xs ys _ S1 => ∀ p, S1 p = none → Q (.ref p) (up1 S1 p (.lst (zipD xs ys))) := rfl
theorem ap_dZ2 {v : DA} {P : List D → List D → (Sto → Prop) → Sto → Prop} : dZ2 v ρ S P = v ρ S fun ds S1 => a2 ds fun x y => sqD x S1 fun xs c1 => sqD y S1 fun ys c2 => P xs ys (fun S' => c1 S' ∧ c2 S') S1 := by
  unfold dZ2 a2; rfl
theorem ap_iEnm {v : DA} {P : List D → (Sto → Prop) → Sto → Prop} : iEnm v ρ S P = v ρ S fun ds S1 => a1 ds fun x => sqD x S1 fun its chk => P (enumD 0 its) chk S1 := by
  unfold iEnm a1; rfl
theorem ap_a1 {P : D → Prop} : a1 [x] P = P x := rfl
theorem ap_a2 {P : D → D → Prop} : a2 [x, y] P = P x y := rfl
theorem ap_sqT {P : List D → (Sto → Prop) → Prop} : sqD (.tup xs) S P = P xs (fun _ => True) := rfl
theorem ap_sqR {a : Addr} {P : List D → (Sto → Prop) → Prop} : sqD (.ref a) S P = lstAt S a fun ds => P ds (fun S' => S' a = some (.lst ds)) := lstAt_eq
theorem ap_dNext : dNext D' ρ S = D'.nx ρ S := rfl
theorem ap_dSeq : dSeq t u D' ρ S = t { D' with nx := u D' } ρ S := rfl
theorem ap_dBreak : dBreak D' ρ S = D'.bk ρ S := rfl
theorem ap_dCont : dCont D' ρ S = D'.ct ρ S := rfl
theorem ap_dDrop : dDrop ta D' ρ S = ta ρ S fun _ S1 => D'.nx ρ S1 := rfl
theorem ap_dRet : dRet ta D' ρ S = ta ρ S D'.rt := rfl
theorem ap_dRetN : dRetN D' ρ S = D'.rt .non S := rfl
theorem ap_dIfS {c : DT} : dIfS c t u D' ρ S = c ρ S fun b S1 => if b = true then t D' ρ S1 else u D' ρ S1 := rfl
theorem ap_dAsg {g : DG} : dAsg ta g D' ρ S = ta ρ S fun x S1 => g x ρ S1 D'.nx := rfl
theorem ap_dPar {i j : Nat} {v : DA} : dPar i j v D' ρ S = v ρ S fun ds S1 => a2 ds fun x y => D'.nx ((ρ.set i (some x)).set j (some y)) S1 := by unfold dPar a2; rfl
def a3 (xs : List D) (P : D → D → D → Prop) : Prop := match xs with
  | [x, y, z] => P x y z
  | _ => False
theorem ap_a3 {P : D → D → D → Prop} : a3 [x, y, z] P = P x y z := rfl
theorem ap_dPar3 {i j l : Nat} {v : DA} : dPar3 i j l v D' ρ S = v ρ S fun ds S1 => a3 ds fun x y z => D'.nx (((ρ.set i (some x)).set j (some y)).set l (some z)) S1 := by unfold dPar3 a3; rfl
theorem ap_dAug {o : D2} {i : Nat} : dAug o i ta D' ρ S = getV ρ i fun x => ta ρ S fun y S1 => o x y S1 fun z S2 => D'.nx (ρ.set i (some z)) S2 := by
  apply propext
  exact ⟨fun ⟨d, e, h⟩ => getV_of e h, fun h => by obtain ⟨d, e, q⟩ := getV_get h; exact ⟨d, e, q⟩⟩
theorem ap_dAugS {og op : D2} {os : D3} : dAugS og op os ta tb tc D' ρ S = ta ρ S fun x S1 => tb ρ S1 fun y S2 => og x y S2 fun z S3 => tc ρ S3 fun w S4 => op z w S4 fun n S5 => os x y n S5 fun S6 => D'.nx ρ S6 := rfl
theorem ap_dFor {wi : DI} {g : DG} : dFor wi g t D' ρ S = wi ρ S fun its chk S1 => forD chk g t D' its ρ S1 := rfl
theorem ap_gSet {i : Nat} {QN : Nv → Sto → Prop} : gSet i x ρ S QN = QN (ρ.set i (some x)) S := rfl
theorem ap_gTup {n : Nat} {w : DGs} {QN : Nv → Sto → Prop} : gTup n w (.tup xs) ρ S QN = (xs.length = n ∧ w xs ρ S QN) := rfl
theorem ap_gNil {QN : Nv → Sto → Prop} : gNil [] ρ S QN = QN ρ S := by unfold gNil; simp
theorem ap_gCons {g : DG} {w : DGs} {QN : Nv → Sto → Prop} : gCons g w (x :: xs) ρ S QN = g x ρ S fun ρ' S' => w xs ρ' S' QN := rfl
theorem ap_gSub {o : D3} {QN : Nv → Sto → Prop} : gSub o ta tb z ρ S QN = ta ρ S fun x S1 => tb ρ S1 fun y S2 => o x y z S2 fun S3 => QN ρ S3 := rfl
theorem tr_non : truD .non S QB = QB false S := rfl
theorem tr_bl {b : Bool} : truD (.bl b) S QB = QB b S := rfl
theorem tr_int {i : Int} : truD (.int i) S QB = QB (i != 0) S := rfl
theorem tr_str {z : Str} : truD (.str z) S QB = (z.length ≤ sizeLine ∧ QB ((z.length : Int) != 0) S) := rfl
theorem tr_tup : truD (.tup xs) S QB = QB (!xs.isEmpty) S := rfl
theorem tr_ref {a : Addr} : truD (.ref a) S QB = lstAt S a fun xs => QB (!xs.isEmpty) S := lstAt_eq
theorem ad_int {i j : Int} : dAdd (.int i) (.int j) S Q = Q (.int (i + j)) S := rfl
theorem ad_tup : dAdd (.tup xs) (.tup ys) S Q = (xs.length + ys.length ≤ sizeLine ∧ Q (.tup (xs ++ ys)) S) := rfl
theorem ad_ref {a b : Addr} : dAdd (.ref a) (.ref b) S Q = lstAt S a fun xs => lstAt S b fun ys => xs.length + ys.length ≤ sizeLine ∧ ∀ p, S p = none → Q (.ref p) (up1 S p (.lst (xs ++ ys))) := by
  simp only [← lstAt_eq]
  exact propext ⟨fun ⟨xs, ys, h, h', r⟩ => ⟨xs, h, ys, h', r⟩, fun ⟨xs, h, ys, h', r⟩ => ⟨xs, ys, h, h', r⟩⟩
theorem sb_int {i j : Int} : dSub (.int i) (.int j) S Q = Q (.int (i - j)) S := rfl
theorem mu_int {i j : Int} : dMul (.int i) (.int j) S Q = (CMulA i j ∧ Q (.int (i * j)) S) := rfl
theorem mu_tup {j : Int} : dMul (.tup xs) (.int j) S Q = (xs ≠ [] ∧ -(2 ^ 63) ≤ j ∧ j ≤ 1000 ∧ xs.length ≤ 1000 ∧ Q (.tup (List.replicate j.toNat xs).flatten) S) := rfl
theorem mu_ref {a : Addr} {j : Int} : dMul (.ref a) (.int j) S Q = lstAt S a fun xs => -(2 ^ 63) ≤ j ∧ j < 2 ^ 63 ∧ xs.length * j.toNat ≤ sizeLine ∧ ∀ p, S p = none → Q (.ref p) (up1 S p (.lst (List.replicate j.toNat xs).flatten)) := lstAt_eq
theorem fd_int {i j : Int} : dFdiv (.int i) (.int j) S Q = (CDivW i j ∧ Q (.int (i / j)) S) := rfl
theorem md_int {i j : Int} : dMod (.int i) (.int j) S Q = (0 < j ∧ Q (.int (i % j)) S) := rfl
theorem pw_int {i j : Int} : dPow (.int i) (.int j) S Q = (CPow i j ∧ Q (.int (i ^ j.toNat)) S) := rfl
theorem ng_int {i : Int} : dNeg (.int i) S Q = Q (.int (-i)) S := rfl
theorem i2_int {f : Int → Int → Int} {i j : Int} : dI2 f (.int i) (.int j) S Q = Q (.int (f i j)) S := rfl
theorem ci_int {f : Int → Int → Bool} {i j : Int} : dCmpI f (.int i) (.int j) S Q = Q (.bl (f i j)) S := rfl
theorem is_bl {n b c : Bool} : dIs n (.bl b) (.bl c) S Q = Q (.bl (if n then !decide (b = c) else decide (b = c))) S := rfl
theorem is_nn {n : Bool} : dIs n .non .non S Q = Q (.bl (!n)) S := rfl
theorem is_in {n : Bool} {i : Int} : dIs n (.int i) .non S Q = Q (.bl n) S := rfl
theorem is_tn {n : Bool} : dIs n (.tup xs) .non S Q = Q (.bl n) S := rfl
theorem is_rn {n : Bool} {a : Addr} : dIs n (.ref a) .non S Q = Q (.bl n) S := rfl
theorem is_sn {n : Bool} {a : Str} : dIs n (.str a) .non S Q = Q (.bl n) S := rfl
theorem ix_tup {i : Int} : dIx (.tup xs) (.int i) S Q = someD (atI xs i) fun d => Q d S := someD_eq
theorem ix_ref {a : Addr} {i : Int} : dIx (.ref a) (.int i) S Q = lstAt S a fun ds => someD (atI ds i) fun d => Q d S := by
  simp only [← lstAt_eq, ← someD_eq]
  exact propext ⟨fun ⟨ds, d, h, r⟩ => ⟨ds, h, d, r⟩, fun ⟨ds, h, d, r⟩ => ⟨ds, d, h, r⟩⟩
theorem ixl_ref {a : Addr} {i : Int} : dIxL (.ref a) (.int i) S Q = lstAt S a fun ds => someD (atI ds i) fun d => Q d S := by
  simp only [← lstAt_eq, ← someD_eq]
  exact propext ⟨fun ⟨ds, d, h, r⟩ => ⟨ds, h, d, r⟩, fun ⟨ds, h, d, r⟩ => ⟨ds, d, h, r⟩⟩
theorem sl_tup {lo hi : Option Int} : dSlc (.tup xs) lo hi S Q = Q (.tup (cutD xs lo hi)) S := rfl
theorem sl_lw {lo hi : Option Int} : dSlc (.lw xs) lo hi S Q = ∀ p, S p = none → Q (.ref p) (up1 S p (.lst (cutD xs lo hi))) := rfl
theorem sl_ref {a : Addr} {lo hi : Option Int} : dSlc (.ref a) lo hi S Q = lstAt S a fun ds => ∀ p, S p = none → Q (.ref p) (up1 S p (.lst (cutD ds lo hi))) := lstAt_eq
theorem st_ref {a : Addr} {i : Int} {P : Sto → Prop} : dSetL (.ref a) (.int i) x S P = lstAt S a fun ds => someD (ixN ds.length i) fun j => P (up1 S a (.lst (ds.set j x))) := by
  simp only [← lstAt_eq, ← someD_eq]
  exact propext ⟨fun ⟨ds, d, h, r⟩ => ⟨ds, h, d, r⟩, fun ⟨ds, h, d, r⟩ => ⟨ds, d, h, r⟩⟩
theorem ap_append {a : Addr} : dAppend (.ref a) [x] S Q = lstAt S a fun ds => ds.length < sizeLine ∧ Q .non (up1 S a (.lst (ds ++ [x]))) := lstAt_eq
theorem ap_extend {a b : Addr} : dExtend (.ref a) [.ref b] S Q = lstAt S a fun ds => lstAt S b fun es => ds.length + es.length ≤ sizeLine ∧ Q .non (up1 S a (.lst (ds ++ es))) := by
  simp only [← lstAt_eq]
  exact propext ⟨fun ⟨xs, ys, h, h', r⟩ => ⟨xs, h, ys, h', r⟩, fun ⟨xs, h, ys, h', r⟩ => ⟨xs, ys, h, h', r⟩⟩
theorem ap_popI {a : Addr} {i : Int} : dPopI (.ref a) [.int i] S Q = ∃ ds j y, S a = some (.lst ds) ∧ -(2 ^ 63) ≤ i ∧ i < 2 ^ 63 ∧ seqIndex? i ds.length = some j ∧ ds[j]? = some y ∧ Q y (up1 S a (.lst (ds.eraseIdx j))) := rfl
theorem ap_pop0 {a : Addr} : dPop0 (.ref a) [] S Q = ∃ ds y, S a = some (.lst ds) ∧ ds[ds.length - 1]? = some y ∧ Q y (up1 S a (.lst ds.dropLast)) := rfl
theorem ty_ref {a : Addr} : tyD "list" (.ref a) S = lstAt S a fun _ => True := by
  show ("list" = "list" ∧ ∃ ds, LA S a ds) = _
  rw [← lstAt_eq]
  exact propext ⟨fun ⟨_, ds, h⟩ => ⟨ds, h, trivial⟩, fun ⟨ds, h, _⟩ => ⟨rfl, ds, h⟩⟩
theorem ln_tup : dLen [.tup xs] S Q = Q (.int xs.length) S := rfl
theorem ln_ref {a : Addr} : dLen [.ref a] S Q = lstAt S a fun ds => Q (.int ds.length) S := lstAt_eq
theorem ab_int {i : Int} : dAbs [.int i] S Q = Q (.int (if i < 0 then -i else i)) S := rfl
theorem in_int {i : Int} : dInt [.int i] S Q = Q (.int i) S := rfl
theorem in_bl {b : Bool} : dInt [.bl b] S Q = Q (.int (if b then 1 else 0)) S := rfl
theorem mn_int {i j : Int} : dMin2 [.int i, .int j] S Q = Q (.int (if j < i then j else i)) S := rfl
theorem mx_int {i j : Int} : dMax2 [.int i, .int j] S Q = Q (.int (if j > i then j else i)) S := rfl
theorem sm_of {x : D} : dSum [x] S Q = sqD x S fun ds _ => ∃ ns : List Int, ds = ns.map D.int ∧ Q (.int ns.sum) S := rfl
theorem al_ref {a : Addr} : dAll [.ref a] S Q = ∃ bs : List Bool, LA S a (bs.map D.bl) ∧ Q (.bl (bs.all id)) S := rfl
theorem an_ref {a : Addr} : dAny [.ref a] S Q = ∃ bs : List Bool, LA S a (bs.map D.bl) ∧ Q (.bl (bs.any id)) S := rfl
theorem li_of {x : D} : dList1 [x] S Q = sqD x S fun ds _ => ∀ p, S p = none → Q (.ref p) (up1 S p (.lst ds)) := rfl
theorem tu_of {x : D} : dTuple1 [x] S Q = sqD x S fun ds _ => Q (.tup ds) S := rfl
theorem so_ref {a : Addr} : dSortI [.ref a] S Q = ∃ ns : List Int, LA S a (ns.map D.int) ∧ ∀ (ns' : List Int) (p : Addr), ns'.Perm ns → ns'.Pairwise (· ≤ ·) → S p = none → Q (.ref p) (up1 S p (.lst (ns'.map D.int))) := rfl
end
def Kn (S : Sto) (x : D) : Prop := match x with
  | .ref a => ∃ ds, LA S a ds
  | y => tyN y S fun _ => True
def tyS : D → String
  | .non => "NoneType"
  | .bl _ => "bool"
  | .int _ => "int"
  | .str _ => "str"
  | .tup _ => "tuple"
  | .ref _ => "list"
  | _ => ""
theorem tyN_at {x : D} {S : Sto} {P : String → Prop} (k : Kn S x) : tyN x S P = P (tyS x) := by
  cases x <;> first
    | rfl
    | exact k.elim
    | (obtain ⟨ds, h⟩ := (show ∃ ds, LA S _ ds from k)
       apply propext
       refine ⟨fun z => z.elim (fun z => z.2) fun ⟨⟨kvs, e⟩, _⟩ => ?_, fun z => .inl ⟨⟨ds, h⟩, z⟩⟩
       rw [show S _ = some (.lst ds) from h] at e
       cases e)
def isI : D → Bool
  | .int _ => true
  | _ => false
def isT : D → Bool
  | .tup _ => true
  | _ => false
def isBl : D → Bool
  | .bl _ => true
  | _ => false
def isSt : D → Bool
  | .str _ => true
  | _ => false
def isL : D → Bool
  | .ref _ => true
  | _ => false
section
variable {S : Sto} {Q : DQ} {x : D}
theorem kit_int (k : Kn S x) : kitB (tyS x) "int" = some (isI x || isBl x) := by
  cases x with
  | non => exact (by decide +kernel : kitB "NoneType" "int" = some false)
  | bl _ => exact (by decide +kernel : kitB "bool" "int" = some true)
  | int _ => exact (by decide +kernel : kitB "int" "int" = some true)
  | str _ => exact (by decide +kernel : kitB "str" "int" = some false)
  | tup _ => exact (by decide +kernel : kitB "tuple" "int" = some false)
  | ref _ => exact (by decide +kernel : kitB "list" "int" = some false)
  | fn _ => exact k.elim
  | ty _ => exact k.elim
  | lw _ => exact k.elim
theorem kit_bool (k : Kn S x) : kitB (tyS x) "bool" = some (isBl x) := by
  cases x with
  | non => exact (by decide +kernel : kitB "NoneType" "bool" = some false)
  | bl _ => exact (by decide +kernel : kitB "bool" "bool" = some true)
  | int _ => exact (by decide +kernel : kitB "int" "bool" = some false)
  | str _ => exact (by decide +kernel : kitB "str" "bool" = some false)
  | tup _ => exact (by decide +kernel : kitB "tuple" "bool" = some false)
  | ref _ => exact (by decide +kernel : kitB "list" "bool" = some false)
  | fn _ => exact k.elim
  | ty _ => exact k.elim
  | lw _ => exact k.elim
theorem kit_str (k : Kn S x) : kitB (tyS x) "str" = some (isSt x) := by
  cases x with
  | non => exact (by decide +kernel : kitB "NoneType" "str" = some false)
  | bl _ => exact (by decide +kernel : kitB "bool" "str" = some false)
  | int _ => exact (by decide +kernel : kitB "int" "str" = some false)
  | str _ => exact (by decide +kernel : kitB "str" "str" = some true)
  | tup _ => exact (by decide +kernel : kitB "tuple" "str" = some false)
  | ref _ => exact (by decide +kernel : kitB "list" "str" = some false)
  | fn _ => exact k.elim
  | ty _ => exact k.elim
  | lw _ => exact k.elim
theorem kit_tuple (k : Kn S x) : kitB (tyS x) "tuple" = some (isT x) := by
  cases x with
  | non => exact (by decide +kernel : kitB "NoneType" "tuple" = some false)
  | bl _ => exact (by decide +kernel : kitB "bool" "tuple" = some false)
  | int _ => exact (by decide +kernel : kitB "int" "tuple" = some false)
  | str _ => exact (by decide +kernel : kitB "str" "tuple" = some false)
  | tup _ => exact (by decide +kernel : kitB "tuple" "tuple" = some true)
  | ref _ => exact (by decide +kernel : kitB "list" "tuple" = some false)
  | fn _ => exact k.elim
  | ty _ => exact k.elim
  | lw _ => exact k.elim
theorem kit_list (k : Kn S x) : kitB (tyS x) "list" = some (isL x) := by
  cases x with
  | non => exact (by decide +kernel : kitB "NoneType" "list" = some false)
  | bl _ => exact (by decide +kernel : kitB "bool" "list" = some false)
  | int _ => exact (by decide +kernel : kitB "int" "list" = some false)
  | str _ => exact (by decide +kernel : kitB "str" "list" = some false)
  | tup _ => exact (by decide +kernel : kitB "tuple" "list" = some false)
  | ref _ => exact (by decide +kernel : kitB "list" "list" = some true)
  | fn _ => exact k.elim
  | ty _ => exact k.elim
  | lw _ => exact k.elim
theorem isi_int (k : Kn S x) : dIsi [x, .ty "int"] S Q = Q (.bl (isI x || isBl x)) S := by
  show (tyN x S fun t => ∃ b, kitB t "int" = some b ∧ Q (.bl b) S) = _
  rw [tyN_at k, kit_int k]
  apply propext
  exact ⟨fun ⟨b, e, h⟩ => by cases e; exact h, fun h => ⟨_, rfl, h⟩⟩
theorem isi_bool (k : Kn S x) : dIsi [x, .ty "bool"] S Q = Q (.bl (isBl x)) S := by
  show (tyN x S fun t => ∃ b, kitB t "bool" = some b ∧ Q (.bl b) S) = _
  rw [tyN_at k, kit_bool k]
  apply propext
  exact ⟨fun ⟨b, e, h⟩ => by cases e; exact h, fun h => ⟨_, rfl, h⟩⟩
theorem isi_str (k : Kn S x) : dIsi [x, .ty "str"] S Q = Q (.bl (isSt x)) S := by
  show (tyN x S fun t => ∃ b, kitB t "str" = some b ∧ Q (.bl b) S) = _
  rw [tyN_at k, kit_str k]
  apply propext
  exact ⟨fun ⟨b, e, h⟩ => by cases e; exact h, fun h => ⟨_, rfl, h⟩⟩
theorem isi_tuple (k : Kn S x) : dIsi [x, .ty "tuple"] S Q = Q (.bl (isT x)) S := by
  show (tyN x S fun t => ∃ b, kitB t "tuple" = some b ∧ Q (.bl b) S) = _
  rw [tyN_at k, kit_tuple k]
  apply propext
  exact ⟨fun ⟨b, e, h⟩ => by cases e; exact h, fun h => ⟨_, rfl, h⟩⟩
theorem isi_tl (k : Kn S x) : dIsi [x, .tup [.ty "tuple", .ty "list"]] S Q = Q (.bl (isT x || isL x)) S := by
  show (tyN x S fun t => ∃ b b', kitB t "tuple" = some b ∧ kitB t "list" = some b' ∧ Q (.bl (b || b')) S) = _
  rw [tyN_at k, kit_tuple k, kit_list k]
  apply propext
  exact ⟨fun ⟨b, b', e, e', h⟩ => by cases e; cases e'; exact h, fun h => ⟨_, _, rfl, rfl, h⟩⟩
end
theorem lc_run {α : Type} {chk : Sto → Prop} {g : DG} {tt : DT} {te : DE} {ρ : Nv} (enc : α → D) (p : α → Bool) (f : α → D) (I : Sto → Prop) (hI : ∀ S, I S → chk S) : ∀ (xs : List α)
    (turn : ∀ x ∈ xs, ∀ (S : Sto) (Y : DQ) (N : Sto → Prop), I S → (p x = true → ∀ S', I S' → Y (f x) S') → (p x = false → ∀ S', I S' → N S') → g (enc x) ρ S fun ρ2 S2 => tt ρ2 S2 fun b S3 => if b = true then te ρ2 S3 Y else N S3)
    (S : Sto) (F : List D → Sto → Prop), I S → (∀ S', I S' → F ((xs.filter p).map f) S') → lcD chk g tt te ρ (xs.map enc) S F
  | [], _, S, F, h, k => ⟨hI S h, k S h⟩
  | x :: r, turn, S, F, h, k => by
    refine ⟨hI S h, turn x (by simp) S _ _ h (fun e S' h' => ?_) fun e S' h' => ?_⟩
    · exact lc_run enc p f I hI r (fun y hy => turn y (by simp [hy])) S' _ h' fun S'' h'' => by
        have := k S'' h''
        rw [List.filter_cons, if_pos e, List.map_cons] at this
        exact this
    · exact lc_run enc p f I hI r (fun y hy => turn y (by simp [hy])) S' _ h' fun S'' h'' => by
        have := k S'' h''
        rw [List.filter_cons, if_neg (by rw [e]; exact Bool.false_ne_true)] at this
        exact this
theorem lc_map {α : Type} {chk : Sto → Prop} {g : DG} {te : DE} {ρ : Nv} (enc : α → D) (f : α → D) (I : Sto → Prop) (hI : ∀ S, I S → chk S) (xs : List α)
    (turn : ∀ x ∈ xs, ∀ (S : Sto) (Y : DQ), I S → (∀ S', I S' → Y (f x) S') → g (enc x) ρ S fun ρ2 S2 => te ρ2 S2 Y)
    (S : Sto) (F : List D → Sto → Prop) (h : I S) (k : ∀ S', I S' → F (xs.map f) S') : lcD chk g dYes te ρ (xs.map enc) S F :=
  lc_run enc (fun _ => true) f I hI xs (fun x hx S Y N hS y _ => turn x hx S Y hS (y rfl)) S F h fun S' h' => by
    rw [List.filter_eq_self.mpr (fun _ _ => rfl)]
    exact k S' h'
end DL
set_option Elab.async false
set_option linter.all false
set_option maxRecDepth 100000
set_option maxHeartbeats 4000000
namespace DL
open PySem L2
mutual
def pd : D → PyData
  | .non => .none
  | .bl b => .bool b
  | .int i => .int i
  | .str z => .str z
  | .tup xs => .tuple (pds xs)
  | _ => .none
def pds : List D → List PyData
  | [] => []
  | x :: r => pd x :: pds r
end
mutual
def isD (n : Nat) : D → Bool
  | .non => true
  | .bl _ => true
  | .int _ => true
  | .str z => PyData.strOk z
  | .tup xs => match n with
    | 0 => false
    | n + 1 => isDs n xs
  | _ => false
def isDs (n : Nat) : List D → Bool
  | [] => true
  | x :: r => isD n x && isDs n r
end
mutual
theorem dd_pd (S : Sto) : ∀ (n : Nat) (x : D), isD n x = true → Dd S x (pd x)
  | _, .non, _ => .non
  | _, .bl b, _ => .bl b
  | _, .int i, _ => .int i
  | _, .str z, _ => .str z
  | 0, .tup xs, h => by simp [isD] at h
  | n + 1, .tup xs, h => .tup (dds_pds S n xs (by simpa [isD] using h))
  | _, .ref _, h => by simp [isD] at h
  | _, .fn _, h => by simp [isD] at h
  | _, .ty _, h => by simp [isD] at h
  | _, .lw _, h => by simp [isD] at h
theorem dds_pds (S : Sto) : ∀ (n : Nat) (xs : List D), isDs n xs = true → DdL S xs (pds xs)
  | _, [], _ => .nil
  | n, x :: r, h => by
    have h' := Bool.and_eq_true_iff.mp (show (isD n x && isDs n r) = true by simpa [isDs] using h)
    exact .cons (dd_pd S n x h'.1) (dds_pds S n r h'.2)
end
mutual
theorem lay_pd : ∀ (n : Nat) (x : D), isD n x = true → (pd x).canLay0 = true ∧ (pd x).depth ≤ n
  | _, .non, _ => ⟨rfl, Nat.zero_le _⟩
  | _, .bl b, _ => ⟨rfl, Nat.zero_le _⟩
  | _, .int i, _ => ⟨rfl, Nat.zero_le _⟩
  | _, .str z, h => ⟨(show PyData.strOk z = true by simpa [isD] using h), Nat.zero_le _⟩
  | 0, .tup xs, h => by simp [isD] at h
  | n + 1, .tup xs, h => by
    obtain ⟨h1, h2⟩ := lay_pds n xs (by simpa [isD] using h)
    exact ⟨h1, Nat.succ_le_succ h2⟩
  | _, .ref _, h => by simp [isD] at h
  | _, .fn _, h => by simp [isD] at h
  | _, .ty _, h => by simp [isD] at h
  | _, .lw _, h => by simp [isD] at h
theorem lay_pds : ∀ (n : Nat) (xs : List D), isDs n xs = true → PyData.canLayAll0 (pds xs) = true ∧ PyData.depthAll (pds xs) ≤ n
  | _, [], _ => ⟨rfl, Nat.zero_le _⟩
  | n, x :: r, h => by
    have h' := Bool.and_eq_true_iff.mp (show (isD n x && isDs n r) = true by simpa [isDs] using h)
    obtain ⟨a, b⟩ := lay_pd n x h'.1
    obtain ⟨c, d⟩ := lay_pds n r h'.2
    exact ⟨by show (PyData.canLay0 (pd x) && PyData.canLayAll0 (pds r)) = true; rw [a, c]; rfl, Nat.max_le.mpr ⟨b, d⟩⟩
end
theorem shp_pd {x : D} (h : isD 63 x = true) : SeqAt.shaped (pd x) = true := by
  obtain ⟨a, b⟩ := lay_pd 63 x h
  exact Bool.and_eq_true_iff.mpr ⟨a, decide_eq_true (by omega)⟩
theorem shp_pdl {xs : List D} (h : isDs 63 xs = true) : SeqAt.shaped (.list (pds xs)) = true := by
  obtain ⟨a, b⟩ := lay_pds 63 xs h
  exact Bool.and_eq_true_iff.mpr ⟨a, decide_eq_true (show PyData.depthAll (pds xs) + 1 ≤ 64 by omega)⟩
theorem eqv_int (i j : Int) : PyData.eqv (.int i) (.int j) = decide (i = j) := by
  show (i == j) = _
  by_cases h : i = j
  · subst h; simp
  · simp [h]
theorem eqv_bl (i j : Bool) : PyData.eqv (.bool i) (.bool j) = decide (i = j) := by
  show (i == j) = _
  cases i <;> cases j <;> rfl
def eqD (x y : D) : Bool := PyData.eqv (pd x) (pd y)
def eqDs (x y : List D) : Bool := PyData.eqvAll (pds x) (pds y)
section
variable {S : Sto} {Q : DQ} {x y : D} {xs ys : List D} {a b : Addr}
theorem eq_DD (hx : isD 63 x = true) (hy : isD 63 y = true) (h : Q (.bl (eqD x y)) S) : dEq x y S Q := .inl ⟨_, _, dd_pd S 63 x hx, dd_pd S 63 y hy, shp_pd hx, shp_pd hy, h⟩
theorem ne_DD (hx : isD 63 x = true) (hy : isD 63 y = true) (h : Q (.bl (!eqD x y)) S) : dNe x y S Q := .inl ⟨_, _, dd_pd S 63 x hx, dd_pd S 63 y hy, shp_pd hx, shp_pd hy, h⟩
theorem eq_RR (hx : LA S a xs) (hy : LA S b ys) (h1 : isDs 63 xs = true) (h2 : isDs 63 ys = true) (h : Q (.bl (eqDs xs ys)) S) : dEq (.ref a) (.ref b) S Q := .inl ⟨_, _, .lst hx (dds_pds S 63 xs h1), .lst hy (dds_pds S 63 ys h2), shp_pdl h1, shp_pdl h2, h⟩
theorem ne_RR (hx : LA S a xs) (hy : LA S b ys) (h1 : isDs 63 xs = true) (h2 : isDs 63 ys = true) (h : Q (.bl (!eqDs xs ys)) S) : dNe (.ref a) (.ref b) S Q := .inl ⟨_, _, .lst hx (dds_pds S 63 xs h1), .lst hy (dds_pds S 63 ys h2), shp_pdl h1, shp_pdl h2, h⟩
theorem ne_strs {p q : Str} (h : Q (.bl (!decide (p = q))) S) : dNe (.str p) (.str q) S Q := .inr ⟨p, q, rfl, rfl, h⟩
theorem eq_ints {i j : Int} (h : Q (.bl (decide (i = j))) S) : dEq (.int i) (.int j) S Q := eq_DD rfl rfl (by
  have : eqD (.int i) (.int j) = decide (i = j) := eqv_int i j
  rw [this]; exact h)
theorem ne_ints {i j : Int} (h : Q (.bl (!decide (i = j))) S) : dNe (.int i) (.int j) S Q := ne_DD rfl rfl (by
  have : eqD (.int i) (.int j) = decide (i = j) := eqv_int i j
  rw [this]; exact h)
theorem ne_bls {i j : Bool} (h : Q (.bl (!decide (i = j))) S) : dNe (.bl i) (.bl j) S Q := ne_DD rfl rfl (by
  have : eqD (.bl i) (.bl j) = decide (i = j) := eqv_bl i j
  rw [this]; exact h)
end
abbrev tI (ns : List Int) : D := .tup (ns.map D.int)
theorem isDs_ints (n : Nat) : ∀ ns : List Int, isDs n (ns.map D.int) = true
  | [] => rfl
  | i :: r => by simp [isDs, isD, isDs_ints n r]
theorem isDs_all {n : Nat} {xs : List D} : isDs n xs = xs.all (isD n) := by
  induction xs with
  | nil => rfl
  | cons x r ih => simp [isDs, ih]
theorem eqDs_nil : ∀ xs : List D, eqDs xs [] = xs.isEmpty
  | [] => rfl
  | _ :: _ => rfl
section
variable {S : Sto} {Q : DQ} {xs ys : List Int} {a b : Addr}
end
theorem Ext.new_eq {S S1 : Sto} {p : Addr} {c : Cell} (e : up1 S p c = S1) (h : S p = none) : Ext S S1 := e ▸ Ext.new h
theorem up_eq {S S1 : Sto} {p : Addr} {c : Cell} (e : up1 S p c = S1) : S1 p = some c := e ▸ up1_same
theorem ExtB.side {a p : Addr} {S S1 : Sto} {c : Cell} (e : ExtB a S S1) (h : S p = none) : ExtB a S (up1 S1 p c) := fun b c' n hb => by
  rw [up1_ne (fun z => by rw [z, h] at hb; cases hb)]; exact e b c' n hb
theorem ExtB.none_of {a p : Addr} {S S1 : Sto} (e : ExtB a S S1) (h : S1 p = none) (n : p ≠ a) : S p = none := by
  cases q : S p with
  | none => rfl
  | some c => rw [e p c n q] at h; cases h
theorem Ext.none_of {p : Addr} {S S1 : Sto} (e : Ext S S1) (h : S1 p = none) : S p = none := by
  cases q : S p with
  | none => rfl
  | some c => rw [e p c q] at h; cases h
inductive All2 {α β : Type} (R : α → β → Prop) : List α → List β → Prop where
  | nil : All2 R [] []
  | cons {x y xs ys} : R x y → All2 R xs ys → All2 R (x :: xs) (y :: ys)
theorem All2.length {α β : Type} {R : α → β → Prop} {xs : List α} {ys : List β} (h : All2 R xs ys) : xs.length = ys.length := by
  induction h with
  | nil => rfl
  | cons _ _ ih => rw [List.length_cons, List.length_cons, ih]
theorem lc_rel {α : Type} {chk : Sto → Prop} {g : DG} {te : DE} {ρ : Nv} (enc : α → D) (R : α → D → Prop) (I : Sto → Prop) (hI : ∀ S, I S → chk S) : ∀ (xs : List α)
    (turn : ∀ x ∈ xs, ∀ (S : Sto) (Y : DQ), I S → (∀ y S', R x y → I S' → Y y S') → g (enc x) ρ S fun ρ2 S2 => te ρ2 S2 Y)
    (S : Sto) (F : List D → Sto → Prop), I S → (∀ ys S', All2 R xs ys → I S' → F ys S') → lcD chk g dYes te ρ (xs.map enc) S F
  | [], _, S, F, h, k => ⟨hI S h, k [] S .nil h⟩
  | x :: r, turn, S, F, h, k => ⟨hI S h, turn x (by simp) S _ h fun y S' hy h' => lc_rel enc R I hI r (fun z hz => turn z (by simp [hz])) S' _ h' fun ys S'' hys h'' => k (y :: ys) S'' (.cons hy hys) h''⟩
theorem all2_ints {α : Type} {P : α → Int → Prop} : ∀ {xs : List α} {ys : List D}, All2 (fun x y => ∃ n, y = D.int n ∧ P x n) xs ys → ∃ ns : List Int, ys = ns.map D.int ∧ All2 P xs ns
  | _, _, .nil => ⟨[], rfl, .nil⟩
  | _, _, .cons ⟨n, e, h⟩ t => by
    obtain ⟨ns, rfl, q⟩ := all2_ints t
    subst e
    exact ⟨n :: ns, rfl, .cons h q⟩
theorem All2.right {α β : Type} {R : α → β → Prop} {P : β → Prop} (hp : ∀ x y, R x y → P y) : ∀ {xs : List α} {ys : List β}, All2 R xs ys → ∀ y ∈ ys, P y
  | _, _, .nil => fun y hy => by cases hy
  | _, _, .cons h t => fun y hy => by
    rcases List.mem_cons.mp hy with e | hy
    · subst e; exact hp _ _ h
    · exact All2.right hp t y hy
end DL
set_option Elab.async false
set_option linter.all false
set_option maxRecDepth 100000
set_option maxHeartbeats 4000000
namespace DL
open PySem L2
end DL
set_option Elab.async false
set_option linter.all false
set_option maxRecDepth 100000
set_option maxHeartbeats 4000000
namespace DL
open PySem PySem.Spec PyProof.Rows L2 RZ
section
variable {κ : Type} [DecidableEq κ]
def valD (kvs : List (κ × D)) (k : κ) : Option D := (kvs.find? fun kv => decide (kv.1 = k)).map (·.2)
def putD (kvs : List (κ × D)) (k : κ) (v : D) : List (κ × D) :=
  if (kvs.any fun kv => decide (kv.1 = k)) = true then kvs.map (fun kv => if kv.1 = k then (kv.1, v) else kv) else kvs ++ [(k, v)]
theorem valD_pos {p : κ × D} {r : List (κ × D)} {k : κ} (e : p.1 = k) : valD (p :: r) k = some p.2 := by simp [valD, List.find?_cons, e]
theorem valD_neg {p : κ × D} {r : List (κ × D)} {k : κ} (e : ¬ p.1 = k) : valD (p :: r) k = valD r k := by simp [valD, List.find?_cons, e]
variable {K : PySem.W.Frag} {mg : Str → Option Value} {H : Hp}
def RpO (K : PySem.W.Frag) (mg : Str → Option Value) (H : Hp) : Option D → Option V → Prop
  | none, none => True
  | some d, some v => Rp K mg H d v
  | _, _ => False
theorem KR.val {kvs : List (κ × D)} {ws : List (κ × V)} (r : KR K mg H kvs ws) (k : κ) : RpO K mg H (valD kvs k) (valV ws k) := by
  unfold KR at r
  induction r with
  | nil => exact True.intro
  | @cons p q ps qs h t ih =>
    obtain ⟨h1, h2⟩ := h
    by_cases e : p.1 = k
    · rw [valD_pos e, valV_pos (h1.symm.trans e)]; exact h2
    · rw [valD_neg e, valV_neg (fun z => e (h1.trans z))]; exact ih
theorem KR.any {kvs : List (κ × D)} {ws : List (κ × V)} (r : KR K mg H kvs ws) (k : κ) : (kvs.any fun kv => decide (kv.1 = k)) = ws.any fun kv => decide (kv.1 = k) := by
  unfold KR at r
  induction r with
  | nil => rfl
  | cons h t ih => rw [List.any_cons, List.any_cons, ih, h.1]
theorem KR.put {kvs : List (κ × D)} {ws : List (κ × V)} (r : KR K mg H kvs ws) (k : κ) {y : D} {u : V} (ry : Rp K mg H y u) : KR K mg H (putD kvs k y) (putK ws k u) := by
  unfold putD putK
  rw [r.any k]
  by_cases e : (ws.any fun kv => decide (kv.1 = k)) = true
  · rw [if_pos e, if_pos e]
    unfold KR at r ⊢
    clear e
    induction r with
    | nil => exact .nil
    | @cons p q ps qs h t ih =>
      rw [List.map_cons, List.map_cons]
      refine .cons ?_ ih
      obtain ⟨h1, h2⟩ := h
      by_cases e : p.1 = k
      · rw [if_pos e, if_pos (h1.symm.trans e)]; exact ⟨h1, ry⟩
      · rw [if_neg e, if_neg (fun z => e (h1.trans z))]; exact ⟨h1, h2⟩
  · rw [if_neg e, if_neg e]; exact Paired.snoc r ⟨rfl, ry⟩
theorem KR.length {kvs : List (κ × D)} {ws : List (κ × V)} (r : KR K mg H kvs ws) : kvs.length = ws.length := Paired.length r
end
def keyD : L2.Key → D
  | .inl i => .int i
  | .inr x => .str x
theorem rp_keyD {K : PySem.W.Frag} {mg : Str → Option Value} {H : Hp} (k : L2.Key) : Rp K mg H (keyD k) (kV k) := by
  cases k with
  | inl i => exact .int i
  | inr x => exact .str x
theorem rp_keysD {K : PySem.W.Frag} {mg : Str → Option Value} {H : Hp} : ∀ ks : List L2.Key, RpL K mg H (ks.map keyD) (ks.map kV)
  | [] => .nil
  | k :: ks => .cons (rp_keyD k) (rp_keysD ks)
def GetD (S : Sto) (a : Addr) (y : D) (o : Option D) : Prop :=
  (∃ lk kvs k, S a = some (.dK lk kvs) ∧ y = keyD k ∧ o = valD kvs k) ∨ ∃ lk kvs ks, S a = some (.dT lk kvs) ∧ y = .tup (ks.map keyD) ∧ o = valD kvs ks
def PutD (S : Sto) (a : Addr) (y v : D) (S' : Sto) : Prop :=
  (∃ kvs k, S a = some (.dK none kvs) ∧ y = keyD k ∧ kvs.length < sizeLine ∧ S' = up1 S a (.dK none (putD kvs k v))) ∨
  ∃ kvs ks, S a = some (.dT none kvs) ∧ y = .tup (ks.map keyD) ∧ kvs.length < sizeLine ∧ S' = up1 S a (.dT none (putD kvs ks v))
def IsDD (S : Sto) (a : Addr) : Prop := (∃ lk kvs, S a = some (.dK lk kvs)) ∨ ∃ lk kvs, S a = some (.dT lk kvs)
section
variable {K : PySem.W.Frag} {mg : Str → Option Value} {S : Sto} {H : Hp} {a : Addr}
theorem StO.dK {lk : Option HO} {kvs : List (L2.Key × D)} (s : StO K mg S H) (h : S a = some (.dK lk kvs)) : ∃ u ws, H a = some u ∧ Lk lk u (.dK ws) ∧ KR K mg H kvs ws := by
  obtain ⟨o, q, r⟩ := s a _ h
  cases r with
  | dK l r => exact ⟨_, _, q, l, r⟩
theorem StO.dT {lk : Option HO} {kvs : List (List L2.Key × D)} (s : StO K mg S H) (h : S a = some (.dT lk kvs)) : ∃ u ws, H a = some u ∧ Lk lk u (.dT ws) ∧ KR K mg H kvs ws := by
  obtain ⟨o, q, r⟩ := s a _ h
  cases r with
  | dT l r => exact ⟨_, _, q, l, r⟩
end
section
variable {X : Cx} {Z : Zb} {o i e f value : Expr} {td ti te tf tv : DE} {pos pos' tpos apos cpos : Pos} {k : Nat}
def dOr (t u : DE) : DE := fun ρ S Q => t ρ S Q ∨ u ρ S Q
def dGetI (td ti : DE) : DE := fun ρ S Q => td ρ S fun x S1 => ti ρ S1 fun y S2 => ∃ a d, x = .ref a ∧ GetD S2 a y (some d) ∧ Q d S2
def dInD (neg : Bool) (ti td : DE) : DE := fun ρ S Q => ti ρ S fun y S1 => td ρ S1 fun x S2 => ∃ a o, x = .ref a ∧ GetD S2 a y o ∧ Q (.bl (if neg = true then !o.isSome else o.isSome)) S2
def dGet1 (td ti : DE) : DE := fun ρ S Q => td ρ S fun x S1 => ∃ a, x = .ref a ∧ IsDD S1 a ∧ ti ρ S1 fun y S2 => ∃ o, GetD S2 a y o ∧ Q (o.getD .non) S2
def dGet2 (td ti tf : DE) : DE := fun ρ S Q => td ρ S fun x S1 => ∃ a, x = .ref a ∧ IsDD S1 a ∧ ti ρ S1 fun y S2 => tf ρ S2 fun w S3 => ∃ o, GetD S3 a y o ∧ Q (o.getD w) S3
def dSetd (td ti tf : DE) : DE := fun ρ S Q => td ρ S fun x S1 => ∃ a, x = .ref a ∧ IsDD S1 a ∧ ti ρ S1 fun y S2 => tf ρ S2 fun w S3 => ∃ kvs k, S3 a = some (.dK none kvs) ∧ y = keyD k ∧ kvs.length < sizeLine ∧
  (∀ d, valD kvs k = some d → Q d S3) ∧ (valD kvs k = none → Q w (up1 S3 a (.dK none (putD kvs k w))))
def dNewD : DE := fun _ S Q => (∀ p, S p = none → Q (.ref p) (up1 S p (.dK none []))) ∨ ∀ p, S p = none → Q (.ref p) (up1 S p (.dT none []))
def dDisp1 (tk tv : DE) : DE := fun ρ S Q => ∀ p, S p = none → tk ρ (up1 S p (.dK none [])) fun y S1 => tv ρ S1 fun d S2 => S2 p = some (.dK none []) ∧ ∃ k, y = keyD k ∧ Q (.ref p) (up1 S2 p (.dK none [(k, d)]))
def dPutS (tv td ti : DE) : DS := fun N ρ S => tv ρ S fun d S1 => td ρ S1 fun x S2 => ti ρ S2 fun y S3 => ∃ a S4, x = .ref a ∧ PutD S3 a y d S4 ∧ N.nx ρ S4
end
def LkC (c : Option HO → Cell) : Prop := (∃ kvs, c = fun lk => .dK lk kvs) ∨ ∃ kvs, c = fun lk => .dT lk kvs
section
variable {K : PySem.W.Frag} {mg : Str → Option Value} {S S' : Sto} {H H' : Hp} {a : Addr} {c : Option HO → Cell} {u l : HO} {od : Obj}
theorem RpS.kp {ρ : Nv} {σ : L2.St} (r : RpS K mg H ρ σ) (k : Kp H H') : RpS K mg H' ρ σ := ⟨r.len, fun i d e => let ⟨v, h1, h2⟩ := r.get i d e; ⟨v, h1, h2.mono k⟩⟩
end
section
variable {X : Cx} {Z : Zb} {st : Stmt} {e : Expr} {t : DS} {te : DE}
end
section
variable {X : Cx} {Z : Zb} {tg e : Expr} {td : DE} {apos cpos : Pos}
def iKeysD (td : DE) : DI := fun ρ S P => td ρ S fun x S1 => ∃ a l, x = .ref a ∧
  ((∃ kvs, S1 a = some (.dK (some l) kvs) ∧ P (kvs.map fun p => keyD p.1) (fun S' => S' a = some (.dK (some l) kvs)) S1) ∨
   ∃ kvs, S1 a = some (.dT (some l) kvs) ∧ P (kvs.map fun p => .tup (p.1.map keyD)) (fun S' => S' a = some (.dT (some l) kvs)) S1)
def iItemsD (td : DE) : DI := fun ρ S P => td ρ S fun x S1 => ∃ a l kvs, x = .ref a ∧ S1 a = some (.dK (some l) kvs) ∧ P (kvs.map fun p => .tup [keyD p.1, p.2]) (fun S' => S' a = some (.dK (some l) kvs)) S1
end
end DL
set_option Elab.async false
set_option linter.all false
set_option maxRecDepth 100000
set_option maxHeartbeats 4000000
namespace DL
open PySem PySem.Spec PyProof.Rows L2 RZ
section
variable {X : Cx} {Z : Zb} {e : Expr} {es : List Expr} {te : DE} {t : DA} {p : Pos}
def dStar (te : DE) (t : DA) : DA := fun ρ S Q => te ρ S fun x S1 => sqD x S1 fun xs _ => t ρ S1 fun ys S2 => Q (xs ++ ys) S2
end
open PySem.W (alike alikeAll dataLt dataLe AllAlike Sortable EachIs minD maxD AlikeAll)
structure SortOk (ds : List D) : Prop where
  is : isDs 30 ds = true
  al : AllAlike (pds ds)
  so : Sortable (pds ds)
  len : ds.length ≤ sizeLine
def leD : D → D → Bool := dataLe false pd
theorem pds_map : ∀ ds : List D, pds ds = ds.map pd
  | [] => rfl
  | x :: r => by rw [pds, pds_map r]; rfl
def dSortD : DN := fun xs S Q => a1 xs fun x => ∃ ds a, x = .ref a ∧ LA S a ds ∧ SortOk ds ∧ ∀ p, S p = none → Q (.ref p) (up1 S p (.lst (ds.mergeSort leD)))
def rSortedA (K : PySem.W.Frag) : List V → Hp → VK → Prop := fun vs H Q => ∃ (a : Addr) (xs : List V) (ps : List PyData), vs = [V.ref a] ∧ SqL K H a xs ∧ DpAll K H xs ps ∧ xs.length = ps.length ∧ AllAlike ps ∧ Sortable ps ∧ (∀ d ∈ ps, d.depth ≤ 30) ∧ ps.length ≤ sizeLine ∧
  ∀ p, H p = none → Q (.ref p) (upd H p (.lst (((xs.zip ps).mergeSort (dataLe false (·.2))).map (·.1))))
section
variable {X : Cx}
theorem each_zip : ∀ {xs : List V} {us : List Value} {ps : List PyData}, Vals xs us → xs.length = ps.length → EachIs (fun v (b : V × PyData) => RelV b.1 v) us (xs.zip ps)
  | _, _, [], .nil, _ => .nil
  | _, _, _ :: _, .nil, h => by simp at h
  | _, _, [], .cons _ _, h => by simp at h
  | _, _, _ :: _, .cons r t, h => .cons r (each_zip t (by simpa using h))
theorem each_reads {h : Heap} : ∀ {xs : List V} {us : List Value} {ps : List PyData} {as : List Addr}, xs.length = ps.length → ReadsAll h us ps as → EachIs (fun v (b : V × PyData) => ∃ as, Reads h v b.2 as) us (xs.zip ps)
  | [], _, _, _, hl, .nil => .nil
  | _ :: _, _, _, _, hl, .nil => by simp at hl
  | [], _, _, _, hl, .cons _ _ => by simp at hl
  | _ :: _, _, _, _, hl, .cons r t => .cons ⟨_, r⟩ (each_reads (by simpa using hl) t)
theorem vals_each : ∀ {us : List Value} {bs : List (V × PyData)}, EachIs (fun v (b : V × PyData) => RelV b.1 v) us bs → Vals (bs.map (·.1)) us
  | _, _, .nil => .nil
  | _, _, .cons r t => .cons r (vals_each t)
theorem cr_sortedA (hu : X.A.units + 64 < cLine) : CallR X (.builtin "sorted") (rSortedA X.K) := by
  intro pins s σ H vs us Q I r h
  obtain ⟨a, xs, ps, rfl, hs, hd, hl, ha, hk, dp, hz, q⟩ := h
  obtain ⟨its, rv, hli, hzi⟩ := I.list hs
  rw [Vals.ref1 r]
  obtain ⟨as, ra⟩ := Dp.readsAll I ps xs its hd rv
  have em : (xs.zip ps).map (·.2) = ps := List.map_snd_zip (by omega)
  refine PySem.W.sorted_data (bs := xs.zip ps) (enc := (·.2)) (R := fun v b => RelV b.1 v) hli.isList (each_zip rv hl) (each_reads hl ra) (by rw [em]; exact ha) (by rw [em]; exact hk) (by rw [List.length_zip]; omega) (fun b hb => ?_) fun out h1 h2 => ?_
  · have := dp b.2 (by rw [← em]; exact List.mem_map.mpr ⟨b, hb, rfl⟩)
    omega
  · obtain ⟨ep, he'⟩ := PyProof.Rows.sortedAll_at s.heap its out.toArray
    have hv := vals_each h2
    have hlen : ((List.mergeSort (xs.zip ps) (dataLe false (·.2))).map (·.1)).length ≤ sizeLine := by
      rw [List.length_map, List.length_mergeSort, List.length_zip]; omega
    exact ⟨.ref _, upd H (s.heap.objs.size + 1) (.lst ((List.mergeSort (xs.zip ps) (dataLe false (·.2))).map (·.1))), I.laid (t' := s.toks) (fun _ _ => PyProof.Rows.sortedAll_old) (Nat.le_succ _) ⟨hlen, out, ep, hv, he'⟩, rfl, q _ (I.hok.fresh (Nat.le_succ _))⟩
end
section
variable {K : PySem.W.Frag} {mg : Str → Option Value}
theorem rpL_zip {H : Hp} {α : Type} {f : α → D} {g : α → V} : ∀ {l : List α}, (∀ t ∈ l, Rp K mg H (f t) (g t)) → RpL K mg H (l.map f) (l.map g)
  | [], _ => .nil
  | t :: l, h => .cons (h t List.mem_cons_self) (rpL_zip fun t' m => h t' (List.mem_cons_of_mem _ m))
theorem zip_rp {H : Hp} : ∀ {ds : List D} {xs : List V}, RpL K mg H ds xs → ∀ t ∈ ds.zip xs, Rp K mg H t.1 t.2
  | _, _, .nil, _, m => by cases m
  | _, _, .cons r t, p, m => by
    rw [List.zip_cons_cons] at m
    rcases List.mem_cons.mp m with e | m
    · subst e; exact r
    · exact zip_rp t p m
theorem dps_of {H : Hp} {S : Sto} (s : StO K mg S H) {n : Nat} {ds : List D} {xs : List V} (h : isDs n ds = true) (r : RpL K mg H ds xs) : DpAll K H xs (pds ds) := DdL.dp s (dds_pds S n ds h) r
theorem depth_of {n : Nat} {ds : List D} (h : isDs n ds = true) : ∀ d ∈ pds ds, d.depth ≤ n := by
  intro d hd
  rw [pds_map] at hd
  obtain ⟨x, hx, rfl⟩ := List.mem_map.mp hd
  refine (lay_pd n x ?_).2
  clear hd
  induction ds with
  | nil => cases hx
  | cons y r ih =>
    have h' := Bool.and_eq_true_iff.mp (show (isD n y && isDs n r) = true by simpa [isDs] using h)
    rcases List.mem_cons.mp hx with e | hx
    · subst e; exact h'.1
    · exact ih h'.2 hx
theorem sort_zip (ds : List D) (xs : List V) (hl : ds.length = xs.length) : ((xs.zip (pds ds)).mergeSort (dataLe false (·.2))).map (·.1) = ((ds.zip xs).mergeSort (dataLe false fun t => pd t.1)).map (·.2) ∧ ds.mergeSort leD = ((ds.zip xs).mergeSort (dataLe false fun t => pd t.1)).map (·.1) := by
  constructor
  · have e : xs.zip (pds ds) = (ds.zip xs).map fun t => (t.2, pd t.1) := by
      rw [pds_map]
      clear hl
      induction ds generalizing xs with
      | nil => simp
      | cons d r ih => cases xs with
        | nil => rfl
        | cons x xs => simp [ih xs]
    rw [e, ← List.map_mergeSort (r := dataLe false fun t : D × V => pd t.1) (s := dataLe false fun b : V × PyData => b.2) (f := fun t : D × V => (t.2, pd t.1)) (fun a _ b _ => rfl), List.map_map]
    rfl
  · have e : ds = (ds.zip xs).map (·.1) := (List.map_fst_zip (by omega)).symm
    conv => lhs; rw [e]
    rw [← List.map_mergeSort (r := dataLe false fun t : D × V => pd t.1) (s := leD) (f := fun t : D × V => t.1) (fun a _ b _ => rfl)]
theorem sortD_ok : OpN K mg (rSortedA K) dSortD := by
  intro S H xs vs P Q s rx h k
  obtain ⟨x, v, rfl, rfl, r, ds, a, rfl, l, ok, h⟩ := a1_of rx h
  cases r
  obtain ⟨ws, sq, rl⟩ := s.sqL l
  have hl := rl.length
  have hp : (pds ds).length = ds.length := by rw [pds_map, List.length_map]
  refine ⟨a, ws, pds ds, rfl, sq, dps_of s ok.is rl, by omega, ok.al, ok.so, depth_of ok.is, by rw [hp]; exact ok.len, fun p hp' => ?_⟩
  obtain ⟨e1, e2⟩ := sort_zip ds ws hl
  rw [e1]
  refine k _ _ _ _ (Tr.laid hp') (s.laid hp' (.lst ?_)) (.ref p) (h p (s.free hp'))
  rw [e2]
  refine rpL_zip fun t m => zip_rp rl t ?_
  exact (List.mergeSort_perm _ _).mem_iff.mp m
end
def minOK (big : Bool) (ds : List D) (d : D) : Prop := d ∈ ds ∧ ∀ e ∈ ds, (if big = true then dataLt (pd d) (pd e) else dataLt (pd e) (pd d)) = false
def dMinD (big : Bool) : DN := fun xs S Q => a1 xs fun x => sqD x S fun ds _ => ds ≠ [] ∧ isDs 30 ds = true ∧ AlikeAll (pds ds) ∧ ∀ d, minOK big ds d → Q d S
def rMinA (K : PySem.W.Frag) (big : Bool) : List V → Hp → VK → Prop := fun vs H Q => ∃ (a : Addr) (k : Bool) (xs : List V) (x : PyData) (ps : List PyData), vs = [V.ref a] ∧ SqK K k H a xs ∧ DpAll K H xs (x :: ps) ∧ PyData.canLayAll0 (x :: ps) = true ∧ AlikeAll (x :: ps) ∧ PyData.depthAll (x :: ps) ≤ 30 ∧
  ∀ (i : Nat) (v : V) , xs[i]? = some v → (x :: ps)[i]? = some (if big = true then maxD x ps else minD x ps) → Q v H
section
variable {X : Cx} {A : Around} {E : Value → Shared → Prop}
theorem minD_at (x : PyData) (xs : List PyData) : ∃ i : Nat, (x :: xs)[i]? = some (minD x xs) := by
  obtain ⟨h1, h2⟩ := PySem.W.argBest_fold dataLt PyData.none x xs xs.length (Nat.le_refl _)
  rw [List.take_length] at h2
  exact ⟨_, by rw [show minD x xs = _ from h2.symm, List.getD_eq_getElem?_getD, List.getElem?_eq_getElem (by rw [List.length_cons]; omega)]; rfl⟩
theorem maxD_at (x : PyData) (xs : List PyData) : ∃ i : Nat, (x :: xs)[i]? = some (maxD x xs) := by
  obtain ⟨h1, h2⟩ := PySem.W.argBest_fold (fun a b => dataLt b a) PyData.none x xs xs.length (Nat.le_refl _)
  rw [List.take_length] at h2
  exact ⟨_, by rw [show maxD x xs = _ from h2.symm, List.getD_eq_getElem?_getD, List.getElem?_eq_getElem (by rw [List.length_cons]; omega)]; rfl⟩
theorem canLay_at : ∀ {ps : List PyData} {i : Nat} {p : PyData}, PyData.canLayAll0 ps = true → ps[i]? = some p → p.canLay0 = true
  | [], _, _, _, h => by simp at h
  | x :: r, i, p, hc, h => by
    have h' := Bool.and_eq_true_iff.mp (show (PyData.canLay0 x && PyData.canLayAll0 r) = true by simpa [PyData.canLayAll0] using hc)
    cases i with
    | zero => simp at h; subst h; exact h'.1
    | succ i => exact canLay_at h'.2 (by simpa using h)
theorem reads_at {h : Heap} : ∀ {vs : List Value} {ps : List PyData} {as : List Addr} {i : Nat} {v : Value}, ReadsAll h vs ps as → vs[i]? = some v → ∃ p bs, ps[i]? = some p ∧ Reads h v p bs
  | _, _, _, _, _, .nil, h => by simp at h
  | _, _, _, 0, _, .cons r _, h => by simp at h; subst h; exact ⟨_, _, rfl, r⟩
  | _, _, _, i + 1, _, .cons _ t, h => by
    obtain ⟨p, bs, h1, h2⟩ := reads_at (i := i) t (by simpa using h)
    exact ⟨p, bs, by simpa using h1, h2⟩
theorem vals_at : ∀ {xs : List V} {us : List Value} {i : Nat} {u : Value}, Vals xs us → us[i]? = some u → ∃ v, xs[i]? = some v ∧ RelV v u
  | _, _, _, _, .nil, h => by simp at h
  | _, _, 0, _, .cons r _, h => by simp at h; subst h; exact ⟨_, rfl, r⟩
  | _, _, i + 1, _, .cons _ t, h => by
    obtain ⟨v, h1, h2⟩ := vals_at (i := i) t (by simpa using h)
    exact ⟨v, by simpa using h1, h2⟩
theorem best_end {pins : List (Addr × Obj)} {σ : L2.St} {H : Hp} {s : Shared} {Q : VK} {xs : List V} {its : List Value} {x m : PyData} {ps : List PyData} {as bs : List Addr} (I : Inv X pins σ H s) (rv : Vals xs its) (ra : ReadsAll s.heap its (x :: ps) as) (lay : PyData.canLayAll0 (x :: ps) = true)
    (hm : ∃ i : Nat, (x :: ps)[i]? = some m) (q : ∀ (i : Nat) (v : V), xs[i]? = some v → (x :: ps)[i]? = some m → Q v H) {i : Nat} {v : Value} {h' : Heap} {tk : Nat} (hv : its.toArray[i]? = some v) (r : Reads h' v m bs) (kp : ∀ b o, s.heap.get? b = some o → h'.get? b = some o) :
    EP X pins σ Q v { s with heap := h', toks := tk } := by
  have hv' : its[i]? = some v := by simpa using hv
  obtain ⟨w, hw, rw⟩ := vals_at rv hv'
  obtain ⟨p, bs', hp, rp⟩ := reads_at ra hv'
  obtain ⟨j, hj⟩ := hm
  have e1 := SeqAt.readOf_eq (canLay_at lay hp) (PySem.W.reads_keeps kp rp)
  have e2 := SeqAt.readOf_eq (canLay_at lay hj) r
  have e : p = m := e1.symm.trans e2
  subst e
  exact ⟨w, H, I.kept kp, rw, q i w hw hp⟩
theorem cr_minA (hc : X.calm = true) (hu : X.A.units + 64 < cLine) : CallR X (.builtin "min") (rMinA X.K false) := by
  intro pins s σ H vs us Q I r h
  obtain ⟨a, k, xs, x, ps, rfl, hs, hd, lay, ha, dp, q⟩ := h
  rw [Vals.ref1 r]
  cases k with
  | false =>
    obtain ⟨its, rv, hl, hz⟩ := I.list hs
    obtain ⟨as, ra⟩ := Dp.readsAll I (x :: ps) xs its hd rv
    exact PySem.W.min_list_data (I.ok.hd hc) hl.isList (by simpa using ra) ha (by omega) fun i v h' tk bs hv r kp => best_end I rv ra lay (minD_at x ps) q hv r kp
  | true =>
    obtain ⟨its, rv, hl, hz⟩ := I.tuple hs
    obtain ⟨as, ra⟩ := Dp.readsAll I (x :: ps) xs its hd rv
    exact PySem.W.min_tuple_data (I.ok.hd hc) (show s.heap.IsTuple a its.toArray from hl) (by simpa using ra) ha (by omega) fun i v h' tk bs hv r kp => best_end I rv ra lay (minD_at x ps) q hv r kp
theorem cr_maxA (hc : X.calm = true) (hu : X.A.units + 64 < cLine) : CallR X (.builtin "max") (rMinA X.K true) := by
  intro pins s σ H vs us Q I r h
  obtain ⟨a, k, xs, x, ps, rfl, hs, hd, lay, ha, dp, q⟩ := h
  rw [Vals.ref1 r]
  cases k with
  | false =>
    obtain ⟨its, rv, hl, hz⟩ := I.list hs
    obtain ⟨as, ra⟩ := Dp.readsAll I (x :: ps) xs its hd rv
    exact PySem.W.max_list_data (I.ok.hd hc) hl.isList (by simpa using ra) ha (by omega) fun i v h' tk bs hv r kp => best_end I rv ra lay (maxD_at x ps) q hv r kp
  | true =>
    obtain ⟨its, rv, hl, hz⟩ := I.tuple hs
    obtain ⟨as, ra⟩ := Dp.readsAll I (x :: ps) xs its hd rv
    exact PySem.W.max_tuple_data (I.ok.hd hc) (show s.heap.IsTuple a its.toArray from hl) (by simpa using ra) ha (by omega) fun i v h' tk bs hv r kp => best_end I rv ra lay (maxD_at x ps) q hv r kp
end
section
variable {K : PySem.W.Frag} {mg : Str → Option Value}
theorem best_gen {α : Type} {f : α → α → Bool} (irr : ∀ a, f a a = false) (asym : ∀ a b, f a b = true → f b a = false) (neg : ∀ a b c, f a c = true → f a b = true ∨ f b c = true) :
    ∀ (xs : List α) (x : α), (∀ e, f e x = false → f e (xs.foldl (fun a y => if f y a = true then y else a) x) = false) ∧ ∀ e ∈ x :: xs, f e (xs.foldl (fun a y => if f y a = true then y else a) x) = false := by
  intro xs
  induction xs with
  | nil =>
    intro x
    refine ⟨fun e h => h, fun e he => ?_⟩
    rw [List.mem_singleton.mp he]
    exact irr x
  | cons y r ih =>
    intro x
    by_cases hy : f y x = true
    · obtain ⟨h1, h2⟩ := ih y
      have hx : ∀ e, f e x = false → f e y = false := fun e he => by
        cases q : f e y with
        | false => rfl
        | true =>
          rcases neg e x y q with z | z
          · rw [he] at z; cases z
          · rw [asym y x hy] at z; cases z
      have e0 : (y :: r).foldl (fun a y => if f y a = true then y else a) x = r.foldl (fun a y => if f y a = true then y else a) y := by rw [List.foldl_cons, if_pos hy]
      rw [e0]
      refine ⟨fun e he => h1 e (hx e he), fun e he => ?_⟩
      rcases List.mem_cons.mp he with z | z
      · rw [z]; exact h1 x (asym y x hy)
      · exact h2 e z
    · obtain ⟨h1, h2⟩ := ih x
      have e0 : (y :: r).foldl (fun a y => if f y a = true then y else a) x = r.foldl (fun a y => if f y a = true then y else a) x := by rw [List.foldl_cons, if_neg hy]
      rw [e0]
      refine ⟨h1, fun e he => ?_⟩
      rcases List.mem_cons.mp he with z | z
      · rw [z]; exact h1 x (irr x)
      · rcases List.mem_cons.mp z with z | z
        · rw [z]; exact h1 y (by cases q : f y x with | false => rfl | true => exact absurd q hy)
        · exact h2 e (List.mem_cons_of_mem _ z)
theorem dataLt_neg (a b c : PyData) (h : dataLt a c = true) : dataLt a b = true ∨ dataLt b c = true := PyProof.Rows.lex_negTrans (O := PyProof.Rows.itemOrd) _ _ _ h
theorem dataLt_asym (a b : PyData) (h : dataLt a b = true) : dataLt b a = false := by
  cases q : dataLt b a with
  | false => rfl
  | true =>
    have := PyProof.Rows.lex_trans (O := PyProof.Rows.itemOrd) _ _ _ h q
    rw [PyProof.Rows.lex_irrefl] at this
    cases this
theorem dataLt_irr (a : PyData) : dataLt a a = false := PyProof.Rows.lex_irrefl _
theorem min_le (x : PyData) (xs : List PyData) : ∀ e ∈ x :: xs, dataLt e (minD x xs) = false := (best_gen dataLt_irr dataLt_asym dataLt_neg xs x).2
theorem max_ge (x : PyData) (xs : List PyData) : ∀ e ∈ x :: xs, dataLt (maxD x xs) e = false :=
  (best_gen (f := fun a b => dataLt b a) dataLt_irr (fun a b h => dataLt_asym _ _ h) (fun a b c h => (dataLt_neg c b a h).symm) xs x).2
theorem depthAll_of {n : Nat} {ds : List D} (h : isDs n ds = true) : PyData.depthAll (pds ds) ≤ n := (lay_pds n ds h).2
theorem minA_ok (big : Bool) : OpN K mg (rMinA K big) (dMinD big) := by
  intro S H xs vs P Q s rx h k
  obtain ⟨x, v, rfl, rfl, r, h⟩ := a1_of rx h
  obtain ⟨kk, a, ds, ws, chk, rfl, sq, rl, hne, is, al, h⟩ := sqD_at s r h
  cases ds with
  | nil => exact absurd rfl hne
  | cons d ds =>
    refine ⟨a, kk, ws, pd d, pds ds, rfl, sq, dps_of s is rl, (lay_pds 30 (d :: ds) is).1, al, depthAll_of is, fun i w hw hm => ?_⟩
    obtain ⟨e, he, re⟩ := rl.get' hw
    have hpe : (pd d :: pds ds)[i]? = some (pd e) := by
      rw [show pd d :: pds ds = (d :: ds).map pd from (pds_map (d :: ds)), List.getElem?_map, he]; rfl
    rw [hpe] at hm
    refine k.now s re (h e ⟨List.mem_of_getElem? he, fun e' he' => ?_⟩)
    have hin : pd e' ∈ pd d :: pds ds := by
      rw [show pd d :: pds ds = (d :: ds).map pd from (pds_map (d :: ds))]
      exact List.mem_map.mpr ⟨e', he', rfl⟩
    have hm' := Option.some.inj hm
    cases big with
    | false =>
      rw [if_neg Bool.false_ne_true] at hm' ⊢
      rw [hm']
      exact min_le _ _ _ hin
    | true =>
      rw [if_pos rfl] at hm' ⊢
      rw [hm']
      exact max_ge _ _ _ hin
end
section
variable {X : Cx}
end
end DL
set_option Elab.async false
set_option linter.all false
set_option maxRecDepth 100000
set_option maxHeartbeats 4000000
namespace DL
open PySem PySem.Spec PyProof.Rows L2 RZ
section
variable {P : Program} {w : World} {A : Around} {E : Value → Shared → Prop} {s : Shared}
abbrev setE (w : World) : Obj := { cls := .type "set", dict := none, data := .set #[] 0 (.fresh 0 0 (!w.params.followText "set-order")) }
set_option maxHeartbeats 8000000 in
theorem set_of_ints {l : Addr} {its : Array Value} (ns : List Int) {Q : Value → Shared → Prop} (hh : A.handled = none) (hl : s.heap.IsList l its) (hi : IntsAre its.toList ns) (hb : ns.length + 1 < scanBound)
    (h : ∀ (h' : Heap) (tk c : Nat), SetR w h' s.heap.objs.size (fun j => decide (j ∈ ns)) c → c ≤ ns.length → (∀ b o, s.heap.get? b = some o → h'.get? b = some o) → Q (.ref s.heap.objs.size) { s with heap := h', toks := tk }) :
    wpAny (model P w) A (call (.type "set") [.ref l]) Q E s := by
  have hn : its.size = ns.length := by rw [← IntsAre.length hi, Array.length_toList]
  obtain ⟨m1, m2, m3⟩ := F.called_set.mro
  have f1 := F.called_set.made
  have f2 := F.called_set.sub
  refine wpAny_call (codeAny_of_tree ?_)
  show wpAny _ _ (callAny (Value.type "set") _) _ _ _
  refine wpAny_pure ⟨Code.quiet_builtin _ (by decide +kernel), codeAny_builtin F.entry_type_call ?_⟩
  rw [Around.under_plain (weight_type_call_type "set" [.ref l] []) rfl]
  have f3 := F.called_set.notType
  have f4 := F.called_set.canCreate
  have f5 := F.typeCall_set_1 (.ref l)
  repeat (any_goals (first | assumption | wp_step))
  refine codeAny_mono (code_set_led1 (.ref l) (E := E) (Q₁ := fun obj s₁ => obj = .ref s.heap.objs.size ∧ s₁ = { s with heap := s.heap.push (setE w) }) ⟨rfl, rfl⟩) fun r s₁ hr => ?_
  cases r with
  | error e => exact hr
  | ok fl =>
    cases fl with
    | next => exact hr.elim
    | brk => exact hr.elim
    | cont => exact hr.elim
    | ret obj =>
      obtain ⟨rfl, rfl⟩ := hr
      have hS : (s.heap.push (setE w)).get? s.heap.objs.size = some (setE w) := Heap.get?_push_size _ rfl
      have hT : Shared.TypeIs { s with heap := s.heap.push (setE w) } (.ref s.heap.objs.size) "set" := ⟨_, hS, rfl⟩
      have f6 := F.called_set.init.lookup
      have f7 := F.called_set.init.bind (.ref s.heap.objs.size)
      repeat (any_goals (first | assumption | wp_step))
      refine codeAny_mono (codeAny_call_builtin (R := wants (fun r s₂ => r = .none ∧ ∃ h' tk c, s₂ = { s with heap := h', toks := tk } ∧ SetR w h' s.heap.objs.size (fun j => decide (j ∈ ns)) c ∧ c ≤ ns.length ∧ ∀ b o, s.heap.get? b = some o → h'.get? b = some o) E)
        F.called_set.init.plain F.entry_set_init (check_set_init_1 hT ?_)) fun r₂ s₂ hr₂ => ?_
      · obtain ⟨⟨c0, d0, dt0, sl0⟩, hol, hcl, nl, hdl⟩ := hl
        dsimp only at hcl hdl
        subst hcl hdl
        have hlt : l < s.heap.objs.size := Heap.lt_size hol
        have zp : (s.heap.push (setE w)).objs.size = s.heap.objs.size + 1 := Heap.size_push ..
        have hol' : (s.heap.push (setE w)).get? l = some { cls := .type "list", dict := d0, data := .seq its nl, slots := sl0 } := Heap.get?_push_of_some _ hol
        have g1 := F.sub_list_set
        have g2 := F.sub_list_frozenset
        have g3 : (Value.type "list" == Value.type "dict") = false := by decide
        have hl1 : (s.heap.push (setE w)).IsList l its := ⟨_, hol', rfl, nl, rfl⟩
        unfold Builtin.«set.__init__» noKeywords Builtin.Frozenset.updateFrom
        generalize hPI : pyIter = PI
        wp_walk
        subst hPI
        refine wpAny_pyIter_list hl1 (wpAny_bind (wpAny_runValue ?_))
        have hh3 : A.in1.in1.in1.handled = none := by simp [hh]
        have n1 : l ≠ (s.heap.push (setE w)).objs.size := by rw [zp]; exact Nat.ne_of_lt (Nat.lt_succ_of_lt hlt)
        have n2 : s.heap.objs.size ∉ [(s.heap.push (setE w)).objs.size, l] := by
          simp only [List.mem_cons, List.not_mem_nil, or_false, not_or]
          exact ⟨by rw [zp]; exact Nat.ne_of_lt (Nat.lt_succ_self _), Nat.ne_of_gt hlt⟩
        refine set_update_ints ((Walks.list hh3 _ l n1 its).toS) s.heap.objs.size n2 ns hn hb (fun i v hv => ?_) (its.size - 0) 0 _ (by omega) (Nat.zero_le _) ⟨⟨_, Heap.get?_push_size _ rfl, rfl, rfl⟩, hl1.push _⟩ ⟨0, Nat.le_refl 0, setR_new_at (Heap.get?_push_of_some _ hS)⟩ fun s' c' hm hc' hS' => ?_
        · have hi' : i < ns.length := by rw [← hn]; exact (Array.getElem?_eq_some_iff.mp hv).1
          obtain ⟨t, e⟩ := PyProof.Rows.IntsAre.int_at hi i v (by rw [Array.getElem?_toList]; exact hv)
          exact ⟨ns[i], t, List.getElem?_eq_getElem hi', by rw [e, List.getD_eq_getElem?_getD, List.getElem?_eq_getElem hi']; rfl⟩
        · obtain ⟨h', q1, q2, tk', q3⟩ := s'
          cases (show q1 = s.gens from hm.gens)
          cases (show q2 = s.drawn from hm.drawn)
          cases (show q3 = s.os from hm.os)
          show wpAny _ _ _ _ _ _
          refine wpAny_pure ?_
          show wpAny _ _ (ret Value.none) _ _ _
          rw [hn] at hc'
          refine wpAny_pure ⟨rfl, h', tk', c', rfl, hS', hc', fun b o e => ?_⟩
          have hb0 : b < s.heap.objs.size := Heap.lt_size e
          refine hm.heap b o ?_ (Heap.get?_push_of_some _ (Heap.get?_push_of_some _ e))
          simp only [List.mem_cons, List.not_mem_nil, or_false, not_or]
          exact ⟨Nat.ne_of_lt hb0, by rw [zp]; exact Nat.ne_of_lt (Nat.lt_succ_of_lt hb0)⟩
      · cases r₂ with
        | error e => exact hr₂
        | ok fl₂ =>
          cases fl₂ with
          | next => exact hr₂.elim
          | brk => exact hr₂.elim
          | cont => exact hr₂.elim
          | ret r =>
            obtain ⟨rfl, h', tk, c, rfl, hS', hc', hk'⟩ := hr₂
            repeat (any_goals (first | assumption | wp_step))
            exact h _ _ _ hS' hc' hk'
end
section
variable {X : Cx}
def FewI (ns : List Int) : Prop := ns.length < 4095 ∧ ∃ us : List Int, us.length < 64 ∧ ∀ k ∈ ns, k ∈ us
theorem FewI.of {ns : List Int} (h : ns.length < 64) : FewI ns := ⟨by omega, ns, h, fun _ h => h⟩
theorem nodup_few : ∀ {l us : List Int}, l.Nodup → (∀ k ∈ l, k ∈ us) → l.length ≤ us.length
  | [], _, _, _ => Nat.zero_le _
  | x :: l, us, hn, hs => by
    obtain ⟨h1, h2⟩ := List.nodup_cons.mp hn
    have hx : x ∈ us := hs x List.mem_cons_self
    have ih := nodup_few (us := us.erase x) h2 fun y hy => (List.mem_erase_of_ne fun e => h1 (by rw [← e]; exact hy)).mpr (hs y (List.mem_cons_of_mem _ hy))
    have e := List.length_erase_of_mem hx
    have hp : 0 < us.length := List.length_pos_of_mem hx
    rw [List.length_cons]
    omega
theorem setR_few {w : World} {h : Heap} {a : Addr} {ns : List Int} {c : Nat} (R : SetR w h a (fun j => decide (j ∈ ns)) c) (f : FewI ns) : c < 64 := by
  obtain ⟨o, es, ep, t, ho, hex, hd, g, nd, hm, hb, hf, hn, hr, hl⟩ := R
  obtain ⟨_, us, hu, hsub⟩ := f
  have := nodup_few nd fun k hk => hsub k (of_decide_eq_true ((hm k).mpr hk))
  rw [List.length_map, Array.length_toList] at this
  omega
def rSetL (w : World) (K : PySem.W.Frag) : List V → Hp → VK → Prop := fun vs H Q => ∃ (l : Addr) (ns : List Int), vs = [V.ref l] ∧ SqL K H l (ns.map V.int) ∧ FewI ns ∧ ∀ a c, H a = none → c < 64 → Q (.ref a) (upd H a (SetO w a (fun j => decide (j ∈ ns)) c))
theorem cr_setL (hc : X.calm = true) : CallR X (.type "set") (rSetL X.w X.K) := by
  intro pins s σ H vs us Q I r h
  obtain ⟨l, ns, rfl, hs, hn, q⟩ := h
  rw [Vals.ref1 r]
  obtain ⟨its, rv, p, hz⟩ := I.list hs
  refine set_of_ints ns (I.ok.hd hc) p.isList (by simpa using ints_of_vals rv) (by have := hn.1; unfold scanBound; omega) fun h' tk c R hcn k => ?_
  exact ⟨.ref _, _, I.laid (a := s.heap.objs.size) (t' := tk) k (Nat.le_refl _) (setO_new R), rfl, q _ c (I.hok.fresh (Nat.le_refl _)) (setR_few R hn)⟩
def rowD (k : List Int) : D := .tup (k.map .int)
def dSortSet (te : DE) : DE := fun ρ S Q => te ρ S fun x S1 => ∃ a ds, x = .ref a ∧ LA S1 a ds ∧
  ((∃ ns : List Int, ds = ns.map D.int ∧ FewI ns ∧ ∀ (ns' : List Int) p, ns'.Pairwise (· < ·) → (∀ k, k ∈ ns' ↔ k ∈ ns) → S1 p = none → Q (.ref p) (up1 S1 p (.lst (ns'.map D.int)))) ∨
   ∃ (ks : List (List Int)) (d : Nat) (B : Int), ds = ks.map rowD ∧ ks.length < 64 ∧ 1 ≤ d ∧ (∀ k ∈ ks, k.length = d ∧ TS.Bd B k) ∧
     ∀ (ks' : List (List Int)) p, ks'.Nodup → (∀ k, k ∈ ks' ↔ k ∈ ks) → ks'.Pairwise (fun k k' => TS.code B k ≤ TS.code B k') → S1 p = none → Q (.ref p) (up1 S1 p (.lst (ks'.map rowD))))
theorem rows_at {K : PySem.W.Frag} {mg : Str → Option Value} {H : Hp} : ∀ {ks : List (List Int)} {xs : List V}, RpL K mg H (ks.map rowD) xs → ∃ L : List (Addr × List Int), L.map (·.2) = ks ∧ xs = L.map (fun p => V.ref p.1) ∧ ∀ p ∈ L, H p.1 = some (.tup (p.2.map V.int))
  | [], _, .nil => ⟨[], rfl, rfl, fun _ h => by cases h⟩
  | k :: ks, _, .cons r t => by
    obtain ⟨L, h1, h2, h3⟩ := rows_at t
    cases (show Rp K mg H (.tup (k.map .int)) _ from r) with
    | @tup b us _ hb rl =>
      refine ⟨(b, k) :: L, by rw [List.map_cons, h1], by rw [List.map_cons, h2], fun p hp => ?_⟩
      rcases List.mem_cons.mp hp with e | hp
      · subst e
        show H b = some (.tup (k.map V.int))
        rw [← rl.ints]
        exact hb
      · exact h3 p hp
theorem rp_rows {K : PySem.W.Frag} {mg : Str → Option Value} {H : Hp} : ∀ {L : List (Addr × List Int)}, (∀ p ∈ L, H p.1 = some (.tup (p.2.map V.int))) → RpL K mg H ((L.map (·.2)).map rowD) (L.map fun p => V.ref p.1)
  | [], _ => .nil
  | p :: L, h => .cons (.tup (h p List.mem_cons_self) (RpL.of_ints p.2)) (rp_rows fun q hq => h q (List.mem_cons_of_mem _ hq))
theorem s_sortset {Z : Zb} {e : Expr} {te : DE} {p p2 pos pos2 : Pos} (hc : X.calm = true) (hu : X.A.units + 64 < cLine) (hg : Gl X "sorted") (hm : X.mg "sorted" = none) (hg2 : Gl X "set") (hm2 : X.mg "set" = none) (he : SE X Z e te)
    (he1 : starEach [e] X.env = (false, eval e X.env) :: starEach [] X.env) (he2 : starEach [.Call (.Name "set" p2) [e] [] pos2] X.env = (false, eval (.Call (.Name "set" p2) [e] [] pos2) X.env) :: starEach [] X.env) :
    SE X Z (.Call (.Name "sorted" p) [.Call (.Name "set" p2) [e] [] pos2] [] pos) (dSortSet te) := by
  have h1 := pe_callTy (pos := pos2) (p := p2) ((cr_setL hc).or (cr_setOfT hc hu)) hg2 hm2 PyProof.Rows.boot_set (pa_cons he pa_nil he1) (by decide) rfl he1 rfl
  have h2 := pe_callB (pos := pos) (p := p) ((cr_sortedSet hc).or (cr_sortedT hc)) hg hm (by decide +kernel) (pa_cons h1 pa_nil he2) (by decide) rfl he2 rfl
  refine peI h2 fun σ H Q ⟨ρ, S, P, r, s, z, h, k⟩ => ?_
  refine ⟨ρ, S, _, r, s, z, h, fun x S1 v H1 t1 s1 rx ⟨a, ds, ex, l, h1⟩ => ?_⟩
  subst ex
  cases rx
  obtain ⟨xs, sq, rl⟩ := s1.sqL l
  rcases h1 with ⟨ns, rfl, hn, q⟩ | ⟨ks, d, B, rfl, hn, hd, hB, q⟩
  · rw [rl.ints] at sq
    refine .inl ⟨a, ns, rfl, sq, hn, fun b c hb hcn => .inl ⟨b, _, c, rfl, upd_same, hcn, fun ns' p2 hp hm' _ hp2 => ?_⟩⟩
    have tb := Tr.laidH (S := S1) (o := SetO X.w b (fun j => decide (j ∈ ns)) c) hb
    have sb := s1.laidH (o := SetO X.w b (fun j => decide (j ∈ ns)) c) hb
    refine k _ _ _ _ ((t1.trans tb).trans (Tr.laid hp2)) (sb.laid hp2 (.lst (RpL.of_ints ns'))) (.ref p2) (q ns' p2 hp (fun j => ?_) (sb.free hp2))
    rw [hm' j, decide_eq_true_eq]
  · obtain ⟨L, e1, e2, hL⟩ := rows_at rl
    subst e1 e2
    refine .inr ⟨a, L, rfl, sq, fun p hp => .inl (.inl (hL p hp)), by rw [List.length_map] at hn; exact hn, fun b L2 hb h1 h2 => .inr ⟨b, L2, d, B, rfl, upd_same, fun p hp => ?_, hd, fun p hp => ?_, fun L' p2 pm nd hf pw hp2 => ?_⟩⟩
    · refine .inl (.inl ?_)
      rw [upd_ne (ne_of_none (hL p (h1 p hp)) hb)]
      exact hL p (h1 p hp)
    · exact hB p.2 (List.mem_map.mpr ⟨p, h1 p hp, rfl⟩)
    · have tb := Tr.laidH (S := S1) (o := SetTO X.prog X.w b L2) hb
      have sb := s1.laidH (o := SetTO X.prog X.w b L2) hb
      have hin : ∀ p ∈ L', H1 p.1 = some (.tup (p.2.map V.int)) := fun p hp => hL p (h1 p (pm.mem_iff.mp hp))
      refine k _ _ _ _ ((t1.trans tb).trans (Tr.laid hp2)) (sb.laid hp2 (.lst (rp_rows fun p hp => ?_))) (.ref p2) (q (L'.map (·.2)) p2 nd (fun j => ?_) (List.pairwise_map.mpr pw) (sb.free hp2))
      · rw [upd_ne (ne_of_none (hin p hp) hb)]
        exact hin p hp
      · constructor
        · intro hj
          obtain ⟨p, hp, rfl⟩ := List.mem_map.mp hj
          exact List.mem_map.mpr ⟨p, h1 p (pm.mem_iff.mp hp), rfl⟩
        · intro hj
          obtain ⟨p, hp, rfl⟩ := List.mem_map.mp hj
          obtain ⟨p', hp', e⟩ := List.mem_map.mp (h2 p hp)
          exact List.mem_map.mpr ⟨p', pm.mem_iff.mpr hp', e⟩
end
section
variable {X : Cx} {Z : Zb} {e : Expr} {te : DE}
def dRevL (te : DE) : DE := fun ρ S Q => te ρ S fun x S1 => ∃ a ds, x = .ref a ∧ LA S1 a ds ∧ ∀ p, S1 p = none → Q (.ref p) (up1 S1 p (.lst ds.reverse))
end
section
variable {K : PySem.W.Frag} {mg : Str → Option Value}
def dMin3 : DN := fun xs S Q => match xs with
  | [.int i, .int j, .int k] => Q (.int (min (min i j) k)) S
  | _ => False
end
end DL
set_option Elab.async false
set_option linter.all false
set_option maxRecDepth 100000
set_option maxHeartbeats 4000000
namespace DL
open PySem L2
def refD (x : D) (P : Addr → Prop) : Prop := match x with
  | .ref a => P a
  | _ => False
theorem refD_eq {x : D} {P : Addr → Prop} : (∃ a, x = .ref a ∧ P a) = refD x P := by
  apply propext
  refine ⟨fun ⟨a, e, h⟩ => by subst e; exact h, fun h => ?_⟩
  cases x <;> first | exact False.elim h | exact ⟨_, rfl, h⟩
theorem rd_ref {a : Addr} {P : Addr → Prop} : refD (.ref a) P = P a := rfl
def dkAt (S : Sto) (a : Addr) (P : List (L2.Key × D) → Prop) : Prop := match S a with
  | some (.dK _ kvs) => P kvs
  | _ => False
def dkAt0 (S : Sto) (a : Addr) (P : List (L2.Key × D) → Prop) : Prop := match S a with
  | some (.dK none kvs) => P kvs
  | _ => False
theorem dkAt_of {S : Sto} {a : Addr} {lk : Option HO} {kvs : List (L2.Key × D)} {P : List (L2.Key × D) → Prop} (h : S a = some (.dK lk kvs)) (p : P kvs) : dkAt S a P := by
  unfold dkAt; rw [h]; exact p
theorem dkAt0_of {S : Sto} {a : Addr} {kvs : List (L2.Key × D)} {P : List (L2.Key × D) → Prop} (h : S a = some (.dK none kvs)) (p : P kvs) : dkAt0 S a P := by
  unfold dkAt0; rw [h]; exact p
theorem dkAt_inv {S : Sto} {a : Addr} {P : List (L2.Key × D) → Prop} (h : dkAt S a P) : ∃ lk kvs, S a = some (.dK lk kvs) ∧ P kvs := by
  unfold dkAt at h
  split at h
  · exact ⟨_, _, ‹_›, h⟩
  · exact h.elim
theorem dkAt0_inv {S : Sto} {a : Addr} {P : List (L2.Key × D) → Prop} (h : dkAt0 S a P) : ∃ kvs, S a = some (.dK none kvs) ∧ P kvs := by
  unfold dkAt0 at h
  split at h
  · exact ⟨_, ‹_›, h⟩
  · exact h.elim
def getO (S : Sto) (a : Addr) (y : D) (P : Option D → Prop) : Prop := ∃ o, GetD S a y o ∧ P o
theorem go_int {S : Sto} {a : Addr} {i : Int} {P : Option D → Prop} : getO S a (.int i) P = dkAt S a fun kvs => P (valD kvs (.inl i)) := by
  apply propext
  constructor
  · rintro ⟨o, ⟨lk, kvs, k, e, ek, rfl⟩ | ⟨lk, kvs, ks, e, ek, rfl⟩, p⟩
    · cases k with
      | inl j => cases ek; exact dkAt_of e p
      | inr z => cases ek
    · cases ek
  · intro h
    obtain ⟨lk, kvs, e, p⟩ := dkAt_inv h
    exact ⟨_, .inl ⟨lk, kvs, .inl i, e, rfl, rfl⟩, p⟩
theorem go_str {S : Sto} {a : Addr} {i : Str} {P : Option D → Prop} : getO S a (.str i) P = dkAt S a fun kvs => P (valD kvs (.inr i)) := by
  apply propext
  constructor
  · rintro ⟨o, ⟨lk, kvs, k, e, ek, rfl⟩ | ⟨lk, kvs, ks, e, ek, rfl⟩, p⟩
    · cases k with
      | inr j => cases ek; exact dkAt_of e p
      | inl z => cases ek
    · cases ek
  · intro h
    obtain ⟨lk, kvs, e, p⟩ := dkAt_inv h
    exact ⟨_, .inl ⟨lk, kvs, .inr i, e, rfl, rfl⟩, p⟩
def putAt (S : Sto) (a : Addr) (y d : D) (P : Sto → Prop) : Prop := ∃ S', PutD S a y d S' ∧ P S'
theorem pa_int {S : Sto} {a : Addr} {i : Int} {d : D} {P : Sto → Prop} : putAt S a (.int i) d P = dkAt0 S a fun kvs => kvs.length < sizeLine ∧ P (up1 S a (.dK none (putD kvs (.inl i) d))) := by
  apply propext
  constructor
  · rintro ⟨S', ⟨kvs, k, e, ek, hl, rfl⟩ | ⟨kvs, ks, e, ek, hl, rfl⟩, p⟩
    · cases k with
      | inl j => cases ek; exact dkAt0_of e ⟨hl, p⟩
      | inr z => cases ek
    · cases ek
  · intro h
    obtain ⟨kvs, e, hl, p⟩ := dkAt0_inv h
    exact ⟨_, .inl ⟨kvs, .inl i, e, rfl, hl, rfl⟩, p⟩
def keyAt (y : D) (P : L2.Key → Prop) : Prop := ∃ k, y = keyD k ∧ P k
theorem ka_int {i : Int} {P : L2.Key → Prop} : keyAt (.int i) P = P (.inl i) := by
  apply propext
  refine ⟨fun ⟨k, e, h⟩ => ?_, fun h => ⟨.inl i, rfl, h⟩⟩
  cases k with
  | inl j => cases e; exact h
  | inr z => cases e
theorem ka_str {i : Str} {P : L2.Key → Prop} : keyAt (.str i) P = P (.inr i) := by
  apply propext
  refine ⟨fun ⟨k, e, h⟩ => ?_, fun h => ⟨.inr i, rfl, h⟩⟩
  cases k with
  | inr j => cases e; exact h
  | inl z => cases e
section
variable {ρ : Nv} {S : Sto} {Q : DQ} {QB : Bool → Sto → Prop} {QA : List D → Sto → Prop} {N : DEnds} {ta tb tc td ti tf tk tv : DE} {t u : DS} {x y z : D} {xs ys : List D}
theorem ap_dGetI : dGetI td ti ρ S Q = td ρ S fun x S1 => ti ρ S1 fun y S2 => refD x fun a => getO S2 a y fun o => someD o fun d => Q d S2 := by
  unfold dGetI
  refine congrArg (td ρ S) (funext fun x => funext fun S1 => congrArg (ti ρ S1) (funext fun y => funext fun S2 => ?_))
  rw [← refD_eq]
  apply propext
  constructor
  · rintro ⟨a, d, e, g, q⟩
    exact ⟨a, e, _, g, q⟩
  · rintro ⟨a, e, o, g, q⟩
    cases o with
    | none => exact q.elim
    | some d => exact ⟨a, d, e, g, q⟩
theorem ap_dInD {neg : Bool} : dInD neg ti td ρ S Q = ti ρ S fun y S1 => td ρ S1 fun x S2 => refD x fun a => getO S2 a y fun o => Q (.bl (if neg = true then !o.isSome else o.isSome)) S2 := by
  unfold dInD
  refine congrArg (ti ρ S) (funext fun y => funext fun S1 => congrArg (td ρ S1) (funext fun x => funext fun S2 => ?_))
  rw [← refD_eq]
  exact propext ⟨fun ⟨a, o, e, g, q⟩ => ⟨a, e, o, g, q⟩, fun ⟨a, e, o, g, q⟩ => ⟨a, o, e, g, q⟩⟩
theorem ap_dGet1 : dGet1 td ti ρ S Q = td ρ S fun x S1 => refD x fun a => IsDD S1 a ∧ ti ρ S1 fun y S2 => getO S2 a y fun o => Q (o.getD .non) S2 := by
  unfold dGet1
  simp only [refD_eq]
  rfl
theorem ap_dGet2 : dGet2 td ti tf ρ S Q = td ρ S fun x S1 => refD x fun a => IsDD S1 a ∧ ti ρ S1 fun y S2 => tf ρ S2 fun w S3 => getO S3 a y fun o => Q (o.getD w) S3 := by
  unfold dGet2
  simp only [refD_eq]
  rfl
theorem ap_dDisp1 : dDisp1 tk tv ρ S Q = ∀ p, S p = none → tk ρ (up1 S p (.dK none [])) fun y S1 => tv ρ S1 fun d S2 => S2 p = some (.dK none []) ∧ keyAt y fun k => Q (.ref p) (up1 S2 p (.dK none [(k, d)])) := rfl
theorem ap_dPutS : dPutS tv td ti N ρ S = tv ρ S fun d S1 => td ρ S1 fun x S2 => ti ρ S2 fun y S3 => refD x fun a => putAt S3 a y d (N.nx ρ) := by
  unfold dPutS
  refine congrArg (tv ρ S) (funext fun d => funext fun S1 => congrArg (td ρ S1) (funext fun x => funext fun S2 => congrArg (ti ρ S2) (funext fun y => funext fun S3 => ?_)))
  rw [← refD_eq]
  exact propext ⟨fun ⟨a, S4, e, g, q⟩ => ⟨a, e, S4, g, q⟩, fun ⟨a, e, S4, g, q⟩ => ⟨a, S4, e, g, q⟩⟩
theorem ap_dStar {w : DA} : dStar ta w ρ S QA = ta ρ S fun x S1 => sqD x S1 fun xs _ => w ρ S1 fun ys S2 => QA (xs ++ ys) S2 := rfl
theorem ap_dOr {t u : DE} : dOr t u ρ S Q = (t ρ S Q ∨ u ρ S Q) := rfl
theorem ap_dSortD {a : Addr} : dSortD [.ref a] S Q = lstAt S a fun ds => SortOk ds ∧ ∀ p, S p = none → Q (.ref p) (up1 S p (.lst (ds.mergeSort leD))) := by
  show (∃ ds b, D.ref a = .ref b ∧ LA S b ds ∧ SortOk ds ∧ _) = _
  rw [← lstAt_eq]
  apply propext
  constructor
  · rintro ⟨ds, b, e, l, h⟩
    cases e
    exact ⟨ds, l, h⟩
  · rintro ⟨ds, l, h⟩
    exact ⟨ds, a, rfl, l, h⟩
theorem ap_dMinD {big : Bool} : dMinD big [x] S Q = sqD x S fun ds _ => ds ≠ [] ∧ isDs 30 ds = true ∧ PySem.W.AlikeAll (pds ds) ∧ ∀ d, minOK big ds d → Q d S := rfl
theorem ap_dRevL : dRevL ta ρ S Q = ta ρ S fun x S1 => refD x fun a => lstAt S1 a fun ds => ∀ p, S1 p = none → Q (.ref p) (up1 S1 p (.lst ds.reverse)) := by
  unfold dRevL
  refine congrArg (ta ρ S) (funext fun x => funext fun S1 => ?_)
  rw [← refD_eq]
  simp only [← lstAt_eq]
  exact propext ⟨fun ⟨a, ds, e, g, q⟩ => ⟨a, e, ds, g, q⟩, fun ⟨a, e, ds, g, q⟩ => ⟨a, ds, e, g, q⟩⟩
theorem ap_dMin3 {i j k : Int} : dMin3 [.int i, .int j, .int k] S Q = Q (.int (min (min i j) k)) S := rfl
theorem ap_dNever : dNever N ρ S = False := rfl
end
end DL
set_option Elab.async false
set_option linter.all false
set_option maxRecDepth 100000
set_option maxHeartbeats 4000000
namespace Ca
open PySem DL L2
theorem line {n : Nat} (h : n ≤ 1000000) : n ≤ sizeLine := Nat.le_trans h (by decide)
theorem Kn.ext {S S' : Sto} {x : D} (h : Kn S x) (e : Ext S S') : Kn S' x := by
  cases x <;> first
    | exact h
    | (obtain ⟨ds, l⟩ := (show ∃ ds, LA S _ ds from h); exact ⟨ds, e _ _ l⟩)
def KnT (S : Sto) (x : D) : Prop := Kn S x ∧ ∀ xs, x = .tup xs → xs.length ≤ sizeLine ∧ ∀ m ∈ xs, Kn S m
theorem KnT.ext {S S' : Sto} {x : D} (h : KnT S x) (e : Ext S S') : KnT S' x := ⟨Kn.ext h.1 e, fun xs ex => ⟨(h.2 xs ex).1, fun m hm => Kn.ext ((h.2 xs ex).2 m hm) e⟩⟩
theorem isI_ints : ∀ {xs : List D}, xs.all isI = true → ∃ ns : List Int, xs = ns.map D.int
  | [], _ => ⟨[], rfl⟩
  | x :: r, h => by
    rw [List.all_cons, Bool.and_eq_true] at h
    obtain ⟨ns, rfl⟩ := isI_ints h.2
    cases x <;> first
      | exact absurd h.1 Bool.false_ne_true
      | exact ⟨_ :: ns, rfl⟩
def sp_is_integer : FSp := fun ds S Q _ => ∃ x, ds = [x] ∧ Kn S x ∧ Q (.bl (isI x)) S
def worthZ : List Int → List Int → Int
  | v :: vs, r :: rs => v * r + worthZ vs rs
  | _, _ => 0
def d_is_integer (EP : Exc → Sto → Prop) : DS :=
  (dRet (dAndV (dCall dIsi (dCons (dVar 0) (dCons (dC (.ty "int")) dNil))) (dNotV (dCall dIsi (dCons (dVar 0) (dCons (dC (.ty "bool")) dNil))))))
theorem len_is_integer : ∀ ds S P EP, sp_is_integer ds S P EP → ds.length = 1 := by rintro _ S P EP ⟨x, rfl, _⟩; rfl
theorem pure_is_integer : ∀ ds S Q EP, sp_is_integer ds S Q EP → d_is_integer EP { nx := fun _ S' => Q .non S', rt := Q } (startD 1 ds) S := by
  rintro ds S Q EP ⟨x, rfl, hk, h⟩
  unfold d_is_integer
  try simp only [isi_int hk, isi_bool hk, DL.ap_dC, DL.ap_dVar, DL.ap_dNil, DL.ap_dCons, DL.ap_dTup, DL.ap_dLst, DL.ap_dOp, DL.ap_dB, DL.ap_dChain, DL.ap_dTru, DL.ap_dAndT, DL.ap_dOrT, DL.ap_dNotT, DL.ap_dAndV, DL.ap_dOrV, DL.ap_dNotV, DL.ap_dIf, DL.ap_dUn, DL.ap_dCall, DL.ap_dNoPart, DL.ap_dPart, DL.ap_dSl, DL.ap_dBM, DL.ap_dBM0, DL.ap_dFn, DL.ap_dLc, DL.ap_dYes, DL.ap_dRg1, DL.ap_dRg2, DL.ap_dLrg, DL.ap_dTrg, DL.ap_iAny, DL.ap_iRng1, DL.ap_iRng2, DL.ap_iRng3, DL.ap_rng1P, DL.ap_rng2P, DL.ap_rng3P, DL.ap_iZip, DL.ap_dLzip, DL.ap_dZ2, DL.ap_iEnm, DL.ap_a1, DL.ap_a2, DL.ap_sqT, DL.ap_sqR, DL.ap_dNext, DL.ap_dSeq, DL.ap_dBreak, DL.ap_dCont, DL.ap_dDrop, DL.ap_dRet, DL.ap_dRetN, DL.ap_dIfS, DL.ap_dAsg, DL.ap_dPar, DL.ap_a3, DL.ap_dPar3, DL.ap_dAug, DL.ap_dAugS, DL.ap_dFor, DL.ap_gSet, DL.ap_gTup, DL.ap_gNil, DL.ap_gCons, DL.ap_gSub, DL.tr_non, DL.tr_bl, DL.tr_int, DL.tr_str, DL.tr_tup, DL.tr_ref, DL.ad_int, DL.ad_tup, DL.ad_ref, DL.sb_int, DL.mu_int, DL.mu_tup, DL.mu_ref, DL.fd_int, DL.md_int, DL.pw_int, DL.ng_int, DL.i2_int, DL.ci_int, DL.is_bl, DL.is_nn, DL.is_in, DL.is_tn, DL.is_rn, DL.is_sn, DL.ix_tup, DL.ix_ref, DL.ixl_ref, DL.sl_tup, DL.sl_lw, DL.sl_ref, DL.st_ref, DL.ap_append, DL.ap_extend, DL.ap_popI, DL.ap_pop0, DL.ty_ref, DL.ln_tup, DL.ln_ref, DL.ab_int, DL.in_int, DL.in_bl, DL.mn_int, DL.mx_int, DL.sm_of, DL.al_ref, DL.an_ref, DL.li_of, DL.tu_of, DL.so_ref, DL.rd_ref, DL.go_int, DL.go_str, DL.pa_int, DL.ka_int, DL.ka_str, DL.ap_dGetI, DL.ap_dInD, DL.ap_dGet1, DL.ap_dGet2, DL.ap_dDisp1, DL.ap_dPutS, DL.ap_dStar, DL.ap_dOr, DL.ap_dSortD, DL.ap_dMinD, DL.ap_dRevL, DL.ap_dMin3, DL.ap_dNever, DL.getV_0, DL.getV_s, DL.set_0, DL.set_s, DL.startD_nil, DL.startD_cons, DL.rep_0, DL.rep_s, DL.wipe_nil, DL.wipe_cons, DL.isB_bl, DL.isN_int, DL.someD_some, DL.at0, DL.at1, DL.at2, DL.at3, DL.at4, DL.at5, DL.up1_same, DL.up_up]
  cases x <;> first
    | exact h
    | exact hk.elim
end Ca
set_option Elab.async false
set_option linter.all false
set_option maxRecDepth 100000
set_option maxHeartbeats 4000000
namespace Cb
open PySem DL L2 Ca
def Bag (a c : Addr) (S : Sto) : Prop := ∃ (b0 b1 b2 : Int) (ns : List Int), S a = some (.lst [.int b0, .int b1, .int b2, .ref c]) ∧ S c = some (.lst (ns.map D.int)) ∧ 0 ≤ b0 ∧ 0 ≤ b1 ∧ b1 ≤ 2147483647 ∧ 0 ≤ b2 ∧ ns.length ≤ 63 ∧ ∀ n ∈ ns, 0 ≤ n
def sp__law_bag : FSp := fun ds S Q _ => ∃ ns : List Int, ds = [.lw (ns.map D.int)] ∧ ∀ a c S', Ext S S' → S a = none → S c = none → Bag a c S' → Q (.ref a) S'
def sp__law_take : FSp := fun ds S Q _ => ∃ (a c : Addr) (m : Int), ds = [.ref a, .int m] ∧ Bag a c S ∧ 0 < m ∧ m ≤ 1000000000000 ∧ ∀ v S', 0 ≤ v → v < m → Bag a c S' → ExtB a S S' → Q (.int v) S'
def d__law_bag (EP : Exc → Sto → Prop) : DS :=
  (dRet (dLst (dCons (dC (.int 0)) (dCons (dC (.int 1234567891)) (dCons (dC (.int 0)) (dCons (dLc (iAny (dSl dSlc (dVar 0) dNoPart (dPart (dC (.int 63))))) (gSet 1) dYes (dCall dAbs (dCons (dVar 1) dNil)) [1]) dNil))))))
def d__law_take_1 (EP : Exc → Sto → Prop) : DS :=
  (dAsg (dOp dMod (dCall dInt (dCons (dVar 3) dNil)) (dC (.int 2147483647))) (gSub dSetL (dVar 0) (dC (.int 1))))
def d__law_take_2 (EP : Exc → Sto → Prop) : DS :=
  (dSeq (dAsg (dOp dAdd (dOp dAdd (dOp dMul (dOp dIx (dVar 0) (dC (.int 1))) (dC (.int 48271))) (dOp dMod (dCall dInt (dCons (dVar 2) dNil)) (dC (.int 2147483647)))) (dOp dMul (dC (.int 7919)) (dOp dIx (dVar 0) (dC (.int 2))))) (gSet 3))
  (d__law_take_1 EP))
def d__law_take_3 (EP : Exc → Sto → Prop) : DS :=
  (dSeq (dIfS (dB (dOp (dCmpI (fun i j => decide (j ≤ i))) (dVar 2) (dOp dPow (dC (.int 10)) (dC (.int 18))))) (dAsg (dVar 2) (gSub dSetL (dVar 0) (dC (.int 0)))) dNext)
  (d__law_take_2 EP))
def d__law_take_4 (EP : Exc → Sto → Prop) : DS :=
  (dSeq (dAugS dIxL (dI2 fun i j => i + j) dSetL (dVar 0) (dC (.int 2)) (dC (.int 1)))
  (d__law_take_3 EP))
def d__law_take_5 (EP : Exc → Sto → Prop) : DS :=
  (dSeq (dAsg (dOp dFdiv (dCall dInt (dCons (dOp dIx (dVar 0) (dC (.int 0))) dNil)) (dVar 1)) (gSub dSetL (dVar 0) (dC (.int 0))))
  (dRet (dVar 4)))
def d__law_take_6 (EP : Exc → Sto → Prop) : DS :=
  (dRet (dOp dMod (dCall dInt (dCons (dOp dFdiv (dVar 6) (dC (.int 7))) dNil)) (dVar 1)))
def d__law_take_7 (EP : Exc → Sto → Prop) : DS :=
  (dSeq (dAsg (dOp dMod (dCall dInt (dCons (dOp dMul (dOp dMod (dCall dInt (dCons (dOp dMul (dVar 5) (dVar 5)) dNil)) (dC (.int 998244353))) (dC (.int 30011))) dNil)) (dC (.int 998244353))) (gSet 6))
  (d__law_take_6 EP))
def d__law_take_8 (EP : Exc → Sto → Prop) : DS :=
  (dSeq (dAsg (dOp dMod (dCall dInt (dCons (dOp dMul (dOp dAdd (dOp dIx (dVar 0) (dC (.int 1))) (dC (.int 1))) (dC (.int 39373))) dNil)) (dC (.int 1000000007))) (gSet 5))
  (d__law_take_7 EP))
def d__law_take_9 (EP : Exc → Sto → Prop) : DS :=
  (dSeq (dIfS (dB (dOp (dCmpI (fun i j => decide (j < i))) (dOp dIx (dVar 0) (dC (.int 0))) (dC (.int 0)))) (dSeq (dAsg (dOp dMod (dCall dInt (dCons (dOp dIx (dVar 0) (dC (.int 0))) dNil)) (dVar 1)) (gSet 4))
  (d__law_take_5 EP)) dNext)
  (d__law_take_8 EP))
def d__law_take (EP : Exc → Sto → Prop) : DS :=
  (dSeq (dIfS (dB (dOp dEq (dOp dIx (dVar 0) (dC (.int 0))) (dC (.int 0)))) (dSeq (dAsg (dOp dIx (dOp dAdd (dSl dSlc (dOp dIx (dVar 0) (dC (.int 3))) (dPart (dOp dIx (dVar 0) (dC (.int 2)))) dNoPart) (dLst (dCons (dC (.int 0)) dNil))) (dC (.int 0))) (gSet 2))
  (d__law_take_4 EP)) dNext)
  (d__law_take_9 EP))
theorem LA.ne {S : Sto} {a c : Addr} {xs ys : List D} (h : S a = some (.lst xs)) (h' : S c = some (.lst ys)) (n : xs ≠ ys) : a ≠ c := ne_cell h h' fun e => n (by cases e; rfl)
theorem int_ne_bag {ns : List Int} {x y z : Int} {c : Addr} : ns.map D.int ≠ [.int x, .int y, .int z, .ref c] := fun e => by
  have := congrArg (fun l => l[3]?) e
  simp only [List.getElem?_map] at this
  cases h : ns[3]? <;> rw [h] at this <;> simp at this
theorem Bag.put {a c : Addr} {S : Sto} {b0 b1 b2 b0' b1' b2' : Int} {ns : List Int} (h : S a = some (.lst [.int b0, .int b1, .int b2, .ref c])) (hc : S c = some (.lst (ns.map D.int))) (h0 : 0 ≤ b0') (h1 : 0 ≤ b1') (h1' : b1' ≤ 2147483647) (h2 : 0 ≤ b2') (hl : ns.length ≤ 63) (hn : ∀ n ∈ ns, 0 ≤ n) :
    Bag a c (up1 S a (.lst [.int b0', .int b1', .int b2', .ref c])) := by
  have ne : c ≠ a := LA.ne hc h int_ne_bag
  exact ⟨b0', b1', b2', ns, up1_same, by rw [up1_ne ne]; exact hc, h0, h1, h1', h2, hl, hn⟩
theorem Bag.ext {a c : Addr} {S S' : Sto} (b : Bag a c S) (e : Ext S S') : Bag a c S' := by
  obtain ⟨b0, b1, b2, ns, h, hc, r⟩ := b
  exact ⟨b0, b1, b2, ns, e _ _ h, e _ _ hc, r⟩
theorem Bag.ne {a c p : Addr} {S : Sto} (b : Bag a c S) (h : S p = none) : p ≠ a ∧ p ≠ c := by
  obtain ⟨_, _, _, _, ha, hc, _⟩ := b
  exact ⟨fun e => (by rw [e, ha] at h; cases h), fun e => (by rw [e, hc] at h; cases h)⟩
theorem Bag.put1 {a c p : Addr} {S : Sto} {x : Cell} (b : Bag a c S) (h : p ≠ a ∧ p ≠ c) : Bag a c (up1 S p x) := by
  obtain ⟨b0, b1, b2, ns, ha, hc, r⟩ := b
  exact ⟨b0, b1, b2, ns, by rw [up1_ne (Ne.symm h.1)]; exact ha, by rw [up1_ne (Ne.symm h.2)]; exact hc, r⟩
theorem len__law_bag : ∀ ds S P EP, sp__law_bag ds S P EP → ds.length = 1 := by rintro _ S P EP ⟨xs, rfl, _⟩; rfl
theorem cut_top {xs : List D} {n : Nat} : cutD xs none (some (n : Int)) = xs.take (min n xs.length) := by
  unfold cutD
  rw [HT.sIx_none, HT.sIx_nat]
  simp
theorem pure__law_bag : ∀ ds S Q EP, sp__law_bag ds S Q EP → d__law_bag EP { nx := fun _ S' => Q .non S', rt := Q } (startD 2 ds) S := by
  rintro ds S Q EP ⟨ns, rfl, h⟩
  unfold d__law_bag
  try simp only [DL.ap_dC, DL.ap_dVar, DL.ap_dNil, DL.ap_dCons, DL.ap_dTup, DL.ap_dLst, DL.ap_dOp, DL.ap_dB, DL.ap_dChain, DL.ap_dTru, DL.ap_dAndT, DL.ap_dOrT, DL.ap_dNotT, DL.ap_dAndV, DL.ap_dOrV, DL.ap_dNotV, DL.ap_dIf, DL.ap_dUn, DL.ap_dCall, DL.ap_dNoPart, DL.ap_dPart, DL.ap_dSl, DL.ap_dBM, DL.ap_dBM0, DL.ap_dFn, DL.ap_dLc, DL.ap_dYes, DL.ap_dRg1, DL.ap_dRg2, DL.ap_dLrg, DL.ap_dTrg, DL.ap_iAny, DL.ap_iRng1, DL.ap_iRng2, DL.ap_iRng3, DL.ap_rng1P, DL.ap_rng2P, DL.ap_rng3P, DL.ap_iZip, DL.ap_dLzip, DL.ap_dZ2, DL.ap_iEnm, DL.ap_a1, DL.ap_a2, DL.ap_sqT, DL.ap_sqR, DL.ap_dNext, DL.ap_dSeq, DL.ap_dBreak, DL.ap_dCont, DL.ap_dDrop, DL.ap_dRet, DL.ap_dRetN, DL.ap_dIfS, DL.ap_dAsg, DL.ap_dPar, DL.ap_a3, DL.ap_dPar3, DL.ap_dAug, DL.ap_dAugS, DL.ap_dFor, DL.ap_gSet, DL.ap_gTup, DL.ap_gNil, DL.ap_gCons, DL.ap_gSub, DL.tr_non, DL.tr_bl, DL.tr_int, DL.tr_str, DL.tr_tup, DL.tr_ref, DL.ad_int, DL.ad_tup, DL.ad_ref, DL.sb_int, DL.mu_int, DL.mu_tup, DL.mu_ref, DL.fd_int, DL.md_int, DL.pw_int, DL.ng_int, DL.i2_int, DL.ci_int, DL.is_bl, DL.is_nn, DL.is_in, DL.is_tn, DL.is_rn, DL.is_sn, DL.ix_tup, DL.ix_ref, DL.ixl_ref, DL.sl_tup, DL.sl_lw, DL.sl_ref, DL.st_ref, DL.ap_append, DL.ap_extend, DL.ap_popI, DL.ap_pop0, DL.ty_ref, DL.ln_tup, DL.ln_ref, DL.ab_int, DL.in_int, DL.in_bl, DL.mn_int, DL.mx_int, DL.sm_of, DL.al_ref, DL.an_ref, DL.li_of, DL.tu_of, DL.so_ref, DL.rd_ref, DL.go_int, DL.go_str, DL.pa_int, DL.ka_int, DL.ka_str, DL.ap_dGetI, DL.ap_dInD, DL.ap_dGet1, DL.ap_dGet2, DL.ap_dDisp1, DL.ap_dPutS, DL.ap_dStar, DL.ap_dOr, DL.ap_dSortD, DL.ap_dMinD, DL.ap_dRevL, DL.ap_dMin3, DL.ap_dNever, DL.getV_0, DL.getV_s, DL.set_0, DL.set_s, DL.startD_nil, DL.startD_cons, DL.rep_0, DL.rep_s, DL.wipe_nil, DL.wipe_cons, DL.isB_bl, DL.isN_int, DL.someD_some, DL.at0, DL.at1, DL.at2, DL.at3, DL.at4, DL.at5, DL.up1_same, DL.up_up]
  intro q hq
  have hcut : cutD (ns.map D.int) none (some 63) = (ns.take (min 63 ns.length)).map D.int := by
    have := cut_top (xs := ns.map D.int) (n := 63)
    rw [List.length_map, ← List.map_take] at this
    exact this
  rw [hcut]
  refine lstAt_of up1_same ⟨by rw [List.length_map, List.length_take]; exact line (by omega), ?_⟩
  refine lc_map D.int (fun i => D.int (if i < 0 then -i else i)) (fun S' => Ext (up1 S q (.lst ((ns.take (min 63 ns.length)).map D.int))) S') (fun S' e => e _ _ up1_same) _ (fun i hi S1 Y h1 hY => ?_) _ _ (Ext.refl _) fun S1 h1 p hp => ?_
  · try simp only [DL.ap_dC, DL.ap_dVar, DL.ap_dNil, DL.ap_dCons, DL.ap_dTup, DL.ap_dLst, DL.ap_dOp, DL.ap_dB, DL.ap_dChain, DL.ap_dTru, DL.ap_dAndT, DL.ap_dOrT, DL.ap_dNotT, DL.ap_dAndV, DL.ap_dOrV, DL.ap_dNotV, DL.ap_dIf, DL.ap_dUn, DL.ap_dCall, DL.ap_dNoPart, DL.ap_dPart, DL.ap_dSl, DL.ap_dBM, DL.ap_dBM0, DL.ap_dFn, DL.ap_dLc, DL.ap_dYes, DL.ap_dRg1, DL.ap_dRg2, DL.ap_dLrg, DL.ap_dTrg, DL.ap_iAny, DL.ap_iRng1, DL.ap_iRng2, DL.ap_iRng3, DL.ap_rng1P, DL.ap_rng2P, DL.ap_rng3P, DL.ap_iZip, DL.ap_dLzip, DL.ap_dZ2, DL.ap_iEnm, DL.ap_a1, DL.ap_a2, DL.ap_sqT, DL.ap_sqR, DL.ap_dNext, DL.ap_dSeq, DL.ap_dBreak, DL.ap_dCont, DL.ap_dDrop, DL.ap_dRet, DL.ap_dRetN, DL.ap_dIfS, DL.ap_dAsg, DL.ap_dPar, DL.ap_a3, DL.ap_dPar3, DL.ap_dAug, DL.ap_dAugS, DL.ap_dFor, DL.ap_gSet, DL.ap_gTup, DL.ap_gNil, DL.ap_gCons, DL.ap_gSub, DL.tr_non, DL.tr_bl, DL.tr_int, DL.tr_str, DL.tr_tup, DL.tr_ref, DL.ad_int, DL.ad_tup, DL.ad_ref, DL.sb_int, DL.mu_int, DL.mu_tup, DL.mu_ref, DL.fd_int, DL.md_int, DL.pw_int, DL.ng_int, DL.i2_int, DL.ci_int, DL.is_bl, DL.is_nn, DL.is_in, DL.is_tn, DL.is_rn, DL.is_sn, DL.ix_tup, DL.ix_ref, DL.ixl_ref, DL.sl_tup, DL.sl_lw, DL.sl_ref, DL.st_ref, DL.ap_append, DL.ap_extend, DL.ap_popI, DL.ap_pop0, DL.ty_ref, DL.ln_tup, DL.ln_ref, DL.ab_int, DL.in_int, DL.in_bl, DL.mn_int, DL.mx_int, DL.sm_of, DL.al_ref, DL.an_ref, DL.li_of, DL.tu_of, DL.so_ref, DL.rd_ref, DL.go_int, DL.go_str, DL.pa_int, DL.ka_int, DL.ka_str, DL.ap_dGetI, DL.ap_dInD, DL.ap_dGet1, DL.ap_dGet2, DL.ap_dDisp1, DL.ap_dPutS, DL.ap_dStar, DL.ap_dOr, DL.ap_dSortD, DL.ap_dMinD, DL.ap_dRevL, DL.ap_dMin3, DL.ap_dNever, DL.getV_0, DL.getV_s, DL.set_0, DL.set_s, DL.startD_nil, DL.startD_cons, DL.rep_0, DL.rep_s, DL.wipe_nil, DL.wipe_cons, DL.isB_bl, DL.isN_int, DL.someD_some, DL.at0, DL.at1, DL.at2, DL.at3, DL.at4, DL.at5, DL.up1_same, DL.up_up]
    exact hY S1 h1
  · refine ⟨line (show 4 ≤ 1000000 by decide), fun a ha => ?_⟩
    have e1 := (Ext.new (c := .lst ((ns.take (min 63 ns.length)).map D.int)) hq).trans h1
    have e2 := (e1.trans (Ext.new (c := .lst ((ns.take (min 63 ns.length)).map fun i => D.int (if i < 0 then -i else i))) hp)).trans (Ext.new (c := .lst [D.int 0, D.int 1234567891, D.int 0, D.ref p]) ha)
    have na : p ≠ a := fun e => by rw [e, up1_same] at ha; cases ha
    have hSa : S a = none := by
      cases e : S a with
      | none => rfl
      | some c =>
        have := e1 a c e
        rw [up1_ne (Ne.symm na), this] at ha; cases ha
    refine h a p _ e2 hSa (Ext.none_of e1 hp) ⟨0, 1234567891, 0, (ns.take (min 63 ns.length)).map fun i => if i < 0 then -i else i, up1_same, ?_, by decide, by decide, by decide, by decide, ?_, ?_⟩
    · rw [up1_ne na, up1_same, List.map_map]; rfl
    · rw [List.length_map, List.length_take]; omega
    · intro n hn
      obtain ⟨i, _, rfl⟩ := List.mem_map.mp hn
      show 0 ≤ if i < 0 then -i else i
      split <;> omega
theorem cut_from {xs : List D} {n : Int} (h : 0 ≤ n) : cutD xs (some n) none = xs.drop n.toNat := by
  unfold cutD
  obtain ⟨k, rfl⟩ := Int.eq_ofNat_of_zero_le h
  rw [HT.sIx_nat, HT.sIx_none]
  by_cases hk : k ≤ xs.length
  · rw [Nat.min_eq_left hk, Int.toNat_natCast, List.take_of_length_le (by simp)]
  · rw [Nat.min_eq_right (by omega), Int.toNat_natCast, List.drop_eq_nil_of_le (Nat.le_refl _), List.drop_eq_nil_of_le (by omega), List.take_nil]
theorem pow18 : (10 : Int) ^ (18 : Int).toNat = 1000000000000000000 := by decide
theorem head_or {ns : List Int} {k : Nat} (h : ∀ n ∈ ns, 0 ≤ n) : ∃ c : Int, 0 ≤ c ∧ atI ((ns.map D.int).drop k ++ [D.int 0]) 0 = some (.int c) := by
  cases e : (ns.map D.int).drop k with
  | nil => exact ⟨0, Int.le_refl _, at0⟩
  | cons d r =>
    have hd : d ∈ (ns.map D.int).drop k := by rw [e]; simp
    obtain ⟨i, hi, rfl⟩ := List.mem_map.mp (List.mem_of_mem_drop hd)
    exact ⟨i, h i hi, at0⟩
theorem small_mul {i j : Int} (h0 : 0 ≤ i) (h : i < 18446744073709551616) : CMulA i j := .inl (.inl ⟨by omega, by omega⟩)
theorem small_mul' {i j : Int} (h0 : 0 ≤ j) (h : j < 18446744073709551616) : CMulA i j := .inl (.inr ⟨by omega, by omega⟩)
theorem div_ok {i j : Int} (h0 : 0 < j) (h : j ≤ 1000000000000) : CDivW i j := wide_div (b := 41) h0 (by omega) (by decide) (by decide)
theorem len__law_take : ∀ ds S P EP, sp__law_take ds S P EP → ds.length = 2 := by rintro _ S P EP ⟨a, c, m, rfl, _⟩; rfl
theorem pure__law_take : ∀ ds S Q EP, sp__law_take ds S Q EP → d__law_take EP { nx := fun _ S' => Q .non S', rt := Q } (startD 7 ds) S := by
  rintro ds S Q EP ⟨a, c, m, rfl, ⟨b0, b1, b2, ns, ha, hc, h0, h1, h1', h2, hl, hn⟩, hm, hm', h⟩
  have nca : c ≠ a := LA.ne hc ha int_ne_bag
  -- what follows the first part
  have rest : ∀ (o2 o3 : Option D) (b0' b1' b2' : Int) (S1 : Sto), S1 a = some (.lst [.int b0', .int b1', .int b2', .ref c]) → S1 c = some (.lst (ns.map D.int)) → 0 ≤ b0' → 0 ≤ b1' → b1' ≤ 2147483647 → 0 ≤ b2' → ExtB a S S1 →
      d__law_take_9 EP { nx := fun _ S' => Q .non S', rt := Q } [some (.ref a), some (.int m), o2, o3, none, none, none] S1 := by
    intro o2 o3 b0' b1' b2' S1 ha1 hc1 g0 g1 g1' g2 ge
    unfold d__law_take_9
    try simp only [lstAt_known ha1, DL.ap_dC, DL.ap_dVar, DL.ap_dNil, DL.ap_dCons, DL.ap_dTup, DL.ap_dLst, DL.ap_dOp, DL.ap_dB, DL.ap_dChain, DL.ap_dTru, DL.ap_dAndT, DL.ap_dOrT, DL.ap_dNotT, DL.ap_dAndV, DL.ap_dOrV, DL.ap_dNotV, DL.ap_dIf, DL.ap_dUn, DL.ap_dCall, DL.ap_dNoPart, DL.ap_dPart, DL.ap_dSl, DL.ap_dBM, DL.ap_dBM0, DL.ap_dFn, DL.ap_dLc, DL.ap_dYes, DL.ap_dRg1, DL.ap_dRg2, DL.ap_dLrg, DL.ap_dTrg, DL.ap_iAny, DL.ap_iRng1, DL.ap_iRng2, DL.ap_iRng3, DL.ap_rng1P, DL.ap_rng2P, DL.ap_rng3P, DL.ap_iZip, DL.ap_dLzip, DL.ap_dZ2, DL.ap_iEnm, DL.ap_a1, DL.ap_a2, DL.ap_sqT, DL.ap_sqR, DL.ap_dNext, DL.ap_dSeq, DL.ap_dBreak, DL.ap_dCont, DL.ap_dDrop, DL.ap_dRet, DL.ap_dRetN, DL.ap_dIfS, DL.ap_dAsg, DL.ap_dPar, DL.ap_a3, DL.ap_dPar3, DL.ap_dAug, DL.ap_dAugS, DL.ap_dFor, DL.ap_gSet, DL.ap_gTup, DL.ap_gNil, DL.ap_gCons, DL.ap_gSub, DL.tr_non, DL.tr_bl, DL.tr_int, DL.tr_str, DL.tr_tup, DL.tr_ref, DL.ad_int, DL.ad_tup, DL.ad_ref, DL.sb_int, DL.mu_int, DL.mu_tup, DL.mu_ref, DL.fd_int, DL.md_int, DL.pw_int, DL.ng_int, DL.i2_int, DL.ci_int, DL.is_bl, DL.is_nn, DL.is_in, DL.is_tn, DL.is_rn, DL.is_sn, DL.ix_tup, DL.ix_ref, DL.ixl_ref, DL.sl_tup, DL.sl_lw, DL.sl_ref, DL.st_ref, DL.ap_append, DL.ap_extend, DL.ap_popI, DL.ap_pop0, DL.ty_ref, DL.ln_tup, DL.ln_ref, DL.ab_int, DL.in_int, DL.in_bl, DL.mn_int, DL.mx_int, DL.sm_of, DL.al_ref, DL.an_ref, DL.li_of, DL.tu_of, DL.so_ref, DL.rd_ref, DL.go_int, DL.go_str, DL.pa_int, DL.ka_int, DL.ka_str, DL.ap_dGetI, DL.ap_dInD, DL.ap_dGet1, DL.ap_dGet2, DL.ap_dDisp1, DL.ap_dPutS, DL.ap_dStar, DL.ap_dOr, DL.ap_dSortD, DL.ap_dMinD, DL.ap_dRevL, DL.ap_dMin3, DL.ap_dNever, DL.getV_0, DL.getV_s, DL.set_0, DL.set_s, DL.startD_nil, DL.startD_cons, DL.rep_0, DL.rep_s, DL.wipe_nil, DL.wipe_cons, DL.isB_bl, DL.isN_int, DL.someD_some, DL.at0, DL.at1, DL.at2, DL.at3, DL.at4, DL.at5, DL.up1_same, DL.up_up]
    by_cases hb : 0 < b0'
    · rw [if_pos (decide_eq_true hb)]
      unfold d__law_take_5
      try simp only [lstAt_known ha1, len4, ix4_0, DL.ap_dC, DL.ap_dVar, DL.ap_dNil, DL.ap_dCons, DL.ap_dTup, DL.ap_dLst, DL.ap_dOp, DL.ap_dB, DL.ap_dChain, DL.ap_dTru, DL.ap_dAndT, DL.ap_dOrT, DL.ap_dNotT, DL.ap_dAndV, DL.ap_dOrV, DL.ap_dNotV, DL.ap_dIf, DL.ap_dUn, DL.ap_dCall, DL.ap_dNoPart, DL.ap_dPart, DL.ap_dSl, DL.ap_dBM, DL.ap_dBM0, DL.ap_dFn, DL.ap_dLc, DL.ap_dYes, DL.ap_dRg1, DL.ap_dRg2, DL.ap_dLrg, DL.ap_dTrg, DL.ap_iAny, DL.ap_iRng1, DL.ap_iRng2, DL.ap_iRng3, DL.ap_rng1P, DL.ap_rng2P, DL.ap_rng3P, DL.ap_iZip, DL.ap_dLzip, DL.ap_dZ2, DL.ap_iEnm, DL.ap_a1, DL.ap_a2, DL.ap_sqT, DL.ap_sqR, DL.ap_dNext, DL.ap_dSeq, DL.ap_dBreak, DL.ap_dCont, DL.ap_dDrop, DL.ap_dRet, DL.ap_dRetN, DL.ap_dIfS, DL.ap_dAsg, DL.ap_dPar, DL.ap_a3, DL.ap_dPar3, DL.ap_dAug, DL.ap_dAugS, DL.ap_dFor, DL.ap_gSet, DL.ap_gTup, DL.ap_gNil, DL.ap_gCons, DL.ap_gSub, DL.tr_non, DL.tr_bl, DL.tr_int, DL.tr_str, DL.tr_tup, DL.tr_ref, DL.ad_int, DL.ad_tup, DL.ad_ref, DL.sb_int, DL.mu_int, DL.mu_tup, DL.mu_ref, DL.fd_int, DL.md_int, DL.pw_int, DL.ng_int, DL.i2_int, DL.ci_int, DL.is_bl, DL.is_nn, DL.is_in, DL.is_tn, DL.is_rn, DL.is_sn, DL.ix_tup, DL.ix_ref, DL.ixl_ref, DL.sl_tup, DL.sl_lw, DL.sl_ref, DL.st_ref, DL.ap_append, DL.ap_extend, DL.ap_popI, DL.ap_pop0, DL.ty_ref, DL.ln_tup, DL.ln_ref, DL.ab_int, DL.in_int, DL.in_bl, DL.mn_int, DL.mx_int, DL.sm_of, DL.al_ref, DL.an_ref, DL.li_of, DL.tu_of, DL.so_ref, DL.rd_ref, DL.go_int, DL.go_str, DL.pa_int, DL.ka_int, DL.ka_str, DL.ap_dGetI, DL.ap_dInD, DL.ap_dGet1, DL.ap_dGet2, DL.ap_dDisp1, DL.ap_dPutS, DL.ap_dStar, DL.ap_dOr, DL.ap_dSortD, DL.ap_dMinD, DL.ap_dRevL, DL.ap_dMin3, DL.ap_dNever, DL.getV_0, DL.getV_s, DL.set_0, DL.set_s, DL.startD_nil, DL.startD_cons, DL.rep_0, DL.rep_s, DL.wipe_nil, DL.wipe_cons, DL.isB_bl, DL.isN_int, DL.someD_some, DL.at0, DL.at1, DL.at2, DL.at3, DL.at4, DL.at5, DL.up1_same, DL.up_up]
      refine ⟨hm, div_ok hm hm', ?_⟩
      exact h _ _ (Int.emod_nonneg _ (by omega)) (Int.emod_lt_of_pos _ hm) (Bag.put ha1 hc1 (Int.ediv_nonneg g0 (by omega)) g1 g1' g2 hl hn) (ge.trans ExtB.wrote)
    · rw [if_neg (by simpa using hb)]
      unfold d__law_take_8
      try simp only [lstAt_known ha1, DL.ap_dC, DL.ap_dVar, DL.ap_dNil, DL.ap_dCons, DL.ap_dTup, DL.ap_dLst, DL.ap_dOp, DL.ap_dB, DL.ap_dChain, DL.ap_dTru, DL.ap_dAndT, DL.ap_dOrT, DL.ap_dNotT, DL.ap_dAndV, DL.ap_dOrV, DL.ap_dNotV, DL.ap_dIf, DL.ap_dUn, DL.ap_dCall, DL.ap_dNoPart, DL.ap_dPart, DL.ap_dSl, DL.ap_dBM, DL.ap_dBM0, DL.ap_dFn, DL.ap_dLc, DL.ap_dYes, DL.ap_dRg1, DL.ap_dRg2, DL.ap_dLrg, DL.ap_dTrg, DL.ap_iAny, DL.ap_iRng1, DL.ap_iRng2, DL.ap_iRng3, DL.ap_rng1P, DL.ap_rng2P, DL.ap_rng3P, DL.ap_iZip, DL.ap_dLzip, DL.ap_dZ2, DL.ap_iEnm, DL.ap_a1, DL.ap_a2, DL.ap_sqT, DL.ap_sqR, DL.ap_dNext, DL.ap_dSeq, DL.ap_dBreak, DL.ap_dCont, DL.ap_dDrop, DL.ap_dRet, DL.ap_dRetN, DL.ap_dIfS, DL.ap_dAsg, DL.ap_dPar, DL.ap_a3, DL.ap_dPar3, DL.ap_dAug, DL.ap_dAugS, DL.ap_dFor, DL.ap_gSet, DL.ap_gTup, DL.ap_gNil, DL.ap_gCons, DL.ap_gSub, DL.tr_non, DL.tr_bl, DL.tr_int, DL.tr_str, DL.tr_tup, DL.tr_ref, DL.ad_int, DL.ad_tup, DL.ad_ref, DL.sb_int, DL.mu_int, DL.mu_tup, DL.mu_ref, DL.fd_int, DL.md_int, DL.pw_int, DL.ng_int, DL.i2_int, DL.ci_int, DL.is_bl, DL.is_nn, DL.is_in, DL.is_tn, DL.is_rn, DL.is_sn, DL.ix_tup, DL.ix_ref, DL.ixl_ref, DL.sl_tup, DL.sl_lw, DL.sl_ref, DL.st_ref, DL.ap_append, DL.ap_extend, DL.ap_popI, DL.ap_pop0, DL.ty_ref, DL.ln_tup, DL.ln_ref, DL.ab_int, DL.in_int, DL.in_bl, DL.mn_int, DL.mx_int, DL.sm_of, DL.al_ref, DL.an_ref, DL.li_of, DL.tu_of, DL.so_ref, DL.rd_ref, DL.go_int, DL.go_str, DL.pa_int, DL.ka_int, DL.ka_str, DL.ap_dGetI, DL.ap_dInD, DL.ap_dGet1, DL.ap_dGet2, DL.ap_dDisp1, DL.ap_dPutS, DL.ap_dStar, DL.ap_dOr, DL.ap_dSortD, DL.ap_dMinD, DL.ap_dRevL, DL.ap_dMin3, DL.ap_dNever, DL.getV_0, DL.getV_s, DL.set_0, DL.set_s, DL.startD_nil, DL.startD_cons, DL.rep_0, DL.rep_s, DL.wipe_nil, DL.wipe_cons, DL.isB_bl, DL.isN_int, DL.someD_some, DL.at0, DL.at1, DL.at2, DL.at3, DL.at4, DL.at5, DL.up1_same, DL.up_up]
      have q1 : 0 ≤ (b1' + 1) * 39373 % 1000000007 := Int.emod_nonneg _ (by decide)
      have q2 : (b1' + 1) * 39373 % 1000000007 < 1000000007 := Int.emod_lt_of_pos _ (by decide)
      refine ⟨small_mul (by omega) (by omega), by decide, ?_⟩
      unfold d__law_take_7
      try simp only [DL.ap_dC, DL.ap_dVar, DL.ap_dNil, DL.ap_dCons, DL.ap_dTup, DL.ap_dLst, DL.ap_dOp, DL.ap_dB, DL.ap_dChain, DL.ap_dTru, DL.ap_dAndT, DL.ap_dOrT, DL.ap_dNotT, DL.ap_dAndV, DL.ap_dOrV, DL.ap_dNotV, DL.ap_dIf, DL.ap_dUn, DL.ap_dCall, DL.ap_dNoPart, DL.ap_dPart, DL.ap_dSl, DL.ap_dBM, DL.ap_dBM0, DL.ap_dFn, DL.ap_dLc, DL.ap_dYes, DL.ap_dRg1, DL.ap_dRg2, DL.ap_dLrg, DL.ap_dTrg, DL.ap_iAny, DL.ap_iRng1, DL.ap_iRng2, DL.ap_iRng3, DL.ap_rng1P, DL.ap_rng2P, DL.ap_rng3P, DL.ap_iZip, DL.ap_dLzip, DL.ap_dZ2, DL.ap_iEnm, DL.ap_a1, DL.ap_a2, DL.ap_sqT, DL.ap_sqR, DL.ap_dNext, DL.ap_dSeq, DL.ap_dBreak, DL.ap_dCont, DL.ap_dDrop, DL.ap_dRet, DL.ap_dRetN, DL.ap_dIfS, DL.ap_dAsg, DL.ap_dPar, DL.ap_a3, DL.ap_dPar3, DL.ap_dAug, DL.ap_dAugS, DL.ap_dFor, DL.ap_gSet, DL.ap_gTup, DL.ap_gNil, DL.ap_gCons, DL.ap_gSub, DL.tr_non, DL.tr_bl, DL.tr_int, DL.tr_str, DL.tr_tup, DL.tr_ref, DL.ad_int, DL.ad_tup, DL.ad_ref, DL.sb_int, DL.mu_int, DL.mu_tup, DL.mu_ref, DL.fd_int, DL.md_int, DL.pw_int, DL.ng_int, DL.i2_int, DL.ci_int, DL.is_bl, DL.is_nn, DL.is_in, DL.is_tn, DL.is_rn, DL.is_sn, DL.ix_tup, DL.ix_ref, DL.ixl_ref, DL.sl_tup, DL.sl_lw, DL.sl_ref, DL.st_ref, DL.ap_append, DL.ap_extend, DL.ap_popI, DL.ap_pop0, DL.ty_ref, DL.ln_tup, DL.ln_ref, DL.ab_int, DL.in_int, DL.in_bl, DL.mn_int, DL.mx_int, DL.sm_of, DL.al_ref, DL.an_ref, DL.li_of, DL.tu_of, DL.so_ref, DL.rd_ref, DL.go_int, DL.go_str, DL.pa_int, DL.ka_int, DL.ka_str, DL.ap_dGetI, DL.ap_dInD, DL.ap_dGet1, DL.ap_dGet2, DL.ap_dDisp1, DL.ap_dPutS, DL.ap_dStar, DL.ap_dOr, DL.ap_dSortD, DL.ap_dMinD, DL.ap_dRevL, DL.ap_dMin3, DL.ap_dNever, DL.getV_0, DL.getV_s, DL.set_0, DL.set_s, DL.startD_nil, DL.startD_cons, DL.rep_0, DL.rep_s, DL.wipe_nil, DL.wipe_cons, DL.isB_bl, DL.isN_int, DL.someD_some, DL.at0, DL.at1, DL.at2, DL.at3, DL.at4, DL.at5, DL.up1_same, DL.up_up]
      refine ⟨small_mul q1 (by omega), by decide, small_mul' (by decide) (by decide), by decide, ?_⟩
      unfold d__law_take_6
      try simp only [DL.ap_dC, DL.ap_dVar, DL.ap_dNil, DL.ap_dCons, DL.ap_dTup, DL.ap_dLst, DL.ap_dOp, DL.ap_dB, DL.ap_dChain, DL.ap_dTru, DL.ap_dAndT, DL.ap_dOrT, DL.ap_dNotT, DL.ap_dAndV, DL.ap_dOrV, DL.ap_dNotV, DL.ap_dIf, DL.ap_dUn, DL.ap_dCall, DL.ap_dNoPart, DL.ap_dPart, DL.ap_dSl, DL.ap_dBM, DL.ap_dBM0, DL.ap_dFn, DL.ap_dLc, DL.ap_dYes, DL.ap_dRg1, DL.ap_dRg2, DL.ap_dLrg, DL.ap_dTrg, DL.ap_iAny, DL.ap_iRng1, DL.ap_iRng2, DL.ap_iRng3, DL.ap_rng1P, DL.ap_rng2P, DL.ap_rng3P, DL.ap_iZip, DL.ap_dLzip, DL.ap_dZ2, DL.ap_iEnm, DL.ap_a1, DL.ap_a2, DL.ap_sqT, DL.ap_sqR, DL.ap_dNext, DL.ap_dSeq, DL.ap_dBreak, DL.ap_dCont, DL.ap_dDrop, DL.ap_dRet, DL.ap_dRetN, DL.ap_dIfS, DL.ap_dAsg, DL.ap_dPar, DL.ap_a3, DL.ap_dPar3, DL.ap_dAug, DL.ap_dAugS, DL.ap_dFor, DL.ap_gSet, DL.ap_gTup, DL.ap_gNil, DL.ap_gCons, DL.ap_gSub, DL.tr_non, DL.tr_bl, DL.tr_int, DL.tr_str, DL.tr_tup, DL.tr_ref, DL.ad_int, DL.ad_tup, DL.ad_ref, DL.sb_int, DL.mu_int, DL.mu_tup, DL.mu_ref, DL.fd_int, DL.md_int, DL.pw_int, DL.ng_int, DL.i2_int, DL.ci_int, DL.is_bl, DL.is_nn, DL.is_in, DL.is_tn, DL.is_rn, DL.is_sn, DL.ix_tup, DL.ix_ref, DL.ixl_ref, DL.sl_tup, DL.sl_lw, DL.sl_ref, DL.st_ref, DL.ap_append, DL.ap_extend, DL.ap_popI, DL.ap_pop0, DL.ty_ref, DL.ln_tup, DL.ln_ref, DL.ab_int, DL.in_int, DL.in_bl, DL.mn_int, DL.mx_int, DL.sm_of, DL.al_ref, DL.an_ref, DL.li_of, DL.tu_of, DL.so_ref, DL.rd_ref, DL.go_int, DL.go_str, DL.pa_int, DL.ka_int, DL.ka_str, DL.ap_dGetI, DL.ap_dInD, DL.ap_dGet1, DL.ap_dGet2, DL.ap_dDisp1, DL.ap_dPutS, DL.ap_dStar, DL.ap_dOr, DL.ap_dSortD, DL.ap_dMinD, DL.ap_dRevL, DL.ap_dMin3, DL.ap_dNever, DL.getV_0, DL.getV_s, DL.set_0, DL.set_s, DL.startD_nil, DL.startD_cons, DL.rep_0, DL.rep_s, DL.wipe_nil, DL.wipe_cons, DL.isB_bl, DL.isN_int, DL.someD_some, DL.at0, DL.at1, DL.at2, DL.at3, DL.at4, DL.at5, DL.up1_same, DL.up_up]
      refine ⟨div_ok (by decide) (by decide), hm, ?_⟩
      exact h _ _ (Int.emod_nonneg _ (by omega)) (Int.emod_lt_of_pos _ hm) ⟨b0', b1', b2', ns, ha1, hc1, g0, g1, g1', g2, hl, hn⟩ ge
  unfold d__law_take
  try simp only [lstAt_known ha, DL.ap_dC, DL.ap_dVar, DL.ap_dNil, DL.ap_dCons, DL.ap_dTup, DL.ap_dLst, DL.ap_dOp, DL.ap_dB, DL.ap_dChain, DL.ap_dTru, DL.ap_dAndT, DL.ap_dOrT, DL.ap_dNotT, DL.ap_dAndV, DL.ap_dOrV, DL.ap_dNotV, DL.ap_dIf, DL.ap_dUn, DL.ap_dCall, DL.ap_dNoPart, DL.ap_dPart, DL.ap_dSl, DL.ap_dBM, DL.ap_dBM0, DL.ap_dFn, DL.ap_dLc, DL.ap_dYes, DL.ap_dRg1, DL.ap_dRg2, DL.ap_dLrg, DL.ap_dTrg, DL.ap_iAny, DL.ap_iRng1, DL.ap_iRng2, DL.ap_iRng3, DL.ap_rng1P, DL.ap_rng2P, DL.ap_rng3P, DL.ap_iZip, DL.ap_dLzip, DL.ap_dZ2, DL.ap_iEnm, DL.ap_a1, DL.ap_a2, DL.ap_sqT, DL.ap_sqR, DL.ap_dNext, DL.ap_dSeq, DL.ap_dBreak, DL.ap_dCont, DL.ap_dDrop, DL.ap_dRet, DL.ap_dRetN, DL.ap_dIfS, DL.ap_dAsg, DL.ap_dPar, DL.ap_a3, DL.ap_dPar3, DL.ap_dAug, DL.ap_dAugS, DL.ap_dFor, DL.ap_gSet, DL.ap_gTup, DL.ap_gNil, DL.ap_gCons, DL.ap_gSub, DL.tr_non, DL.tr_bl, DL.tr_int, DL.tr_str, DL.tr_tup, DL.tr_ref, DL.ad_int, DL.ad_tup, DL.ad_ref, DL.sb_int, DL.mu_int, DL.mu_tup, DL.mu_ref, DL.fd_int, DL.md_int, DL.pw_int, DL.ng_int, DL.i2_int, DL.ci_int, DL.is_bl, DL.is_nn, DL.is_in, DL.is_tn, DL.is_rn, DL.is_sn, DL.ix_tup, DL.ix_ref, DL.ixl_ref, DL.sl_tup, DL.sl_lw, DL.sl_ref, DL.st_ref, DL.ap_append, DL.ap_extend, DL.ap_popI, DL.ap_pop0, DL.ty_ref, DL.ln_tup, DL.ln_ref, DL.ab_int, DL.in_int, DL.in_bl, DL.mn_int, DL.mx_int, DL.sm_of, DL.al_ref, DL.an_ref, DL.li_of, DL.tu_of, DL.so_ref, DL.rd_ref, DL.go_int, DL.go_str, DL.pa_int, DL.ka_int, DL.ka_str, DL.ap_dGetI, DL.ap_dInD, DL.ap_dGet1, DL.ap_dGet2, DL.ap_dDisp1, DL.ap_dPutS, DL.ap_dStar, DL.ap_dOr, DL.ap_dSortD, DL.ap_dMinD, DL.ap_dRevL, DL.ap_dMin3, DL.ap_dNever, DL.getV_0, DL.getV_s, DL.set_0, DL.set_s, DL.startD_nil, DL.startD_cons, DL.rep_0, DL.rep_s, DL.wipe_nil, DL.wipe_cons, DL.isB_bl, DL.isN_int, DL.someD_some, DL.at0, DL.at1, DL.at2, DL.at3, DL.at4, DL.at5, DL.up1_same, DL.up_up]
  refine eq_ints ?_
  try simp only [DL.ap_dC, DL.ap_dVar, DL.ap_dNil, DL.ap_dCons, DL.ap_dTup, DL.ap_dLst, DL.ap_dOp, DL.ap_dB, DL.ap_dChain, DL.ap_dTru, DL.ap_dAndT, DL.ap_dOrT, DL.ap_dNotT, DL.ap_dAndV, DL.ap_dOrV, DL.ap_dNotV, DL.ap_dIf, DL.ap_dUn, DL.ap_dCall, DL.ap_dNoPart, DL.ap_dPart, DL.ap_dSl, DL.ap_dBM, DL.ap_dBM0, DL.ap_dFn, DL.ap_dLc, DL.ap_dYes, DL.ap_dRg1, DL.ap_dRg2, DL.ap_dLrg, DL.ap_dTrg, DL.ap_iAny, DL.ap_iRng1, DL.ap_iRng2, DL.ap_iRng3, DL.ap_rng1P, DL.ap_rng2P, DL.ap_rng3P, DL.ap_iZip, DL.ap_dLzip, DL.ap_dZ2, DL.ap_iEnm, DL.ap_a1, DL.ap_a2, DL.ap_sqT, DL.ap_sqR, DL.ap_dNext, DL.ap_dSeq, DL.ap_dBreak, DL.ap_dCont, DL.ap_dDrop, DL.ap_dRet, DL.ap_dRetN, DL.ap_dIfS, DL.ap_dAsg, DL.ap_dPar, DL.ap_a3, DL.ap_dPar3, DL.ap_dAug, DL.ap_dAugS, DL.ap_dFor, DL.ap_gSet, DL.ap_gTup, DL.ap_gNil, DL.ap_gCons, DL.ap_gSub, DL.tr_non, DL.tr_bl, DL.tr_int, DL.tr_str, DL.tr_tup, DL.tr_ref, DL.ad_int, DL.ad_tup, DL.ad_ref, DL.sb_int, DL.mu_int, DL.mu_tup, DL.mu_ref, DL.fd_int, DL.md_int, DL.pw_int, DL.ng_int, DL.i2_int, DL.ci_int, DL.is_bl, DL.is_nn, DL.is_in, DL.is_tn, DL.is_rn, DL.is_sn, DL.ix_tup, DL.ix_ref, DL.ixl_ref, DL.sl_tup, DL.sl_lw, DL.sl_ref, DL.st_ref, DL.ap_append, DL.ap_extend, DL.ap_popI, DL.ap_pop0, DL.ty_ref, DL.ln_tup, DL.ln_ref, DL.ab_int, DL.in_int, DL.in_bl, DL.mn_int, DL.mx_int, DL.sm_of, DL.al_ref, DL.an_ref, DL.li_of, DL.tu_of, DL.so_ref, DL.rd_ref, DL.go_int, DL.go_str, DL.pa_int, DL.ka_int, DL.ka_str, DL.ap_dGetI, DL.ap_dInD, DL.ap_dGet1, DL.ap_dGet2, DL.ap_dDisp1, DL.ap_dPutS, DL.ap_dStar, DL.ap_dOr, DL.ap_dSortD, DL.ap_dMinD, DL.ap_dRevL, DL.ap_dMin3, DL.ap_dNever, DL.getV_0, DL.getV_s, DL.set_0, DL.set_s, DL.startD_nil, DL.startD_cons, DL.rep_0, DL.rep_s, DL.wipe_nil, DL.wipe_cons, DL.isB_bl, DL.isN_int, DL.someD_some, DL.at0, DL.at1, DL.at2, DL.at3, DL.at4, DL.at5, DL.up1_same, DL.up_up]
  by_cases hb0 : b0 = 0
  · rw [if_pos (decide_eq_true hb0)]
    try simp only [lstAt_known ha, lstAt_known hc, DL.ap_dC, DL.ap_dVar, DL.ap_dNil, DL.ap_dCons, DL.ap_dTup, DL.ap_dLst, DL.ap_dOp, DL.ap_dB, DL.ap_dChain, DL.ap_dTru, DL.ap_dAndT, DL.ap_dOrT, DL.ap_dNotT, DL.ap_dAndV, DL.ap_dOrV, DL.ap_dNotV, DL.ap_dIf, DL.ap_dUn, DL.ap_dCall, DL.ap_dNoPart, DL.ap_dPart, DL.ap_dSl, DL.ap_dBM, DL.ap_dBM0, DL.ap_dFn, DL.ap_dLc, DL.ap_dYes, DL.ap_dRg1, DL.ap_dRg2, DL.ap_dLrg, DL.ap_dTrg, DL.ap_iAny, DL.ap_iRng1, DL.ap_iRng2, DL.ap_iRng3, DL.ap_rng1P, DL.ap_rng2P, DL.ap_rng3P, DL.ap_iZip, DL.ap_dLzip, DL.ap_dZ2, DL.ap_iEnm, DL.ap_a1, DL.ap_a2, DL.ap_sqT, DL.ap_sqR, DL.ap_dNext, DL.ap_dSeq, DL.ap_dBreak, DL.ap_dCont, DL.ap_dDrop, DL.ap_dRet, DL.ap_dRetN, DL.ap_dIfS, DL.ap_dAsg, DL.ap_dPar, DL.ap_a3, DL.ap_dPar3, DL.ap_dAug, DL.ap_dAugS, DL.ap_dFor, DL.ap_gSet, DL.ap_gTup, DL.ap_gNil, DL.ap_gCons, DL.ap_gSub, DL.tr_non, DL.tr_bl, DL.tr_int, DL.tr_str, DL.tr_tup, DL.tr_ref, DL.ad_int, DL.ad_tup, DL.ad_ref, DL.sb_int, DL.mu_int, DL.mu_tup, DL.mu_ref, DL.fd_int, DL.md_int, DL.pw_int, DL.ng_int, DL.i2_int, DL.ci_int, DL.is_bl, DL.is_nn, DL.is_in, DL.is_tn, DL.is_rn, DL.is_sn, DL.ix_tup, DL.ix_ref, DL.ixl_ref, DL.sl_tup, DL.sl_lw, DL.sl_ref, DL.st_ref, DL.ap_append, DL.ap_extend, DL.ap_popI, DL.ap_pop0, DL.ty_ref, DL.ln_tup, DL.ln_ref, DL.ab_int, DL.in_int, DL.in_bl, DL.mn_int, DL.mx_int, DL.sm_of, DL.al_ref, DL.an_ref, DL.li_of, DL.tu_of, DL.so_ref, DL.rd_ref, DL.go_int, DL.go_str, DL.pa_int, DL.ka_int, DL.ka_str, DL.ap_dGetI, DL.ap_dInD, DL.ap_dGet1, DL.ap_dGet2, DL.ap_dDisp1, DL.ap_dPutS, DL.ap_dStar, DL.ap_dOr, DL.ap_dSortD, DL.ap_dMinD, DL.ap_dRevL, DL.ap_dMin3, DL.ap_dNever, DL.getV_0, DL.getV_s, DL.set_0, DL.set_s, DL.startD_nil, DL.startD_cons, DL.rep_0, DL.rep_s, DL.wipe_nil, DL.wipe_cons, DL.isB_bl, DL.isN_int, DL.someD_some, DL.at0, DL.at1, DL.at2, DL.at3, DL.at4, DL.at5, DL.up1_same, DL.up_up]
    intro p hp
    rw [cut_from h2]
    refine ⟨line (show 1 ≤ 1000000 by decide), fun q hq => ?_⟩
    have npq : p ≠ q := fun e => by rw [e, up1_same] at hq; cases hq
    refine lstAt_of (by rw [up1_ne npq]; exact up1_same) (lstAt_of up1_same ⟨?_, fun r hr => lstAt_of up1_same ?_⟩)
    · rw [List.length_drop, List.length_map, List.length_singleton]; exact line (by omega)
    · obtain ⟨x, hx, ex⟩ := head_or (k := b2.toNat) hn
      rw [ex]
      try simp only [DL.ap_dC, DL.ap_dVar, DL.ap_dNil, DL.ap_dCons, DL.ap_dTup, DL.ap_dLst, DL.ap_dOp, DL.ap_dB, DL.ap_dChain, DL.ap_dTru, DL.ap_dAndT, DL.ap_dOrT, DL.ap_dNotT, DL.ap_dAndV, DL.ap_dOrV, DL.ap_dNotV, DL.ap_dIf, DL.ap_dUn, DL.ap_dCall, DL.ap_dNoPart, DL.ap_dPart, DL.ap_dSl, DL.ap_dBM, DL.ap_dBM0, DL.ap_dFn, DL.ap_dLc, DL.ap_dYes, DL.ap_dRg1, DL.ap_dRg2, DL.ap_dLrg, DL.ap_dTrg, DL.ap_iAny, DL.ap_iRng1, DL.ap_iRng2, DL.ap_iRng3, DL.ap_rng1P, DL.ap_rng2P, DL.ap_rng3P, DL.ap_iZip, DL.ap_dLzip, DL.ap_dZ2, DL.ap_iEnm, DL.ap_a1, DL.ap_a2, DL.ap_sqT, DL.ap_sqR, DL.ap_dNext, DL.ap_dSeq, DL.ap_dBreak, DL.ap_dCont, DL.ap_dDrop, DL.ap_dRet, DL.ap_dRetN, DL.ap_dIfS, DL.ap_dAsg, DL.ap_dPar, DL.ap_a3, DL.ap_dPar3, DL.ap_dAug, DL.ap_dAugS, DL.ap_dFor, DL.ap_gSet, DL.ap_gTup, DL.ap_gNil, DL.ap_gCons, DL.ap_gSub, DL.tr_non, DL.tr_bl, DL.tr_int, DL.tr_str, DL.tr_tup, DL.tr_ref, DL.ad_int, DL.ad_tup, DL.ad_ref, DL.sb_int, DL.mu_int, DL.mu_tup, DL.mu_ref, DL.fd_int, DL.md_int, DL.pw_int, DL.ng_int, DL.i2_int, DL.ci_int, DL.is_bl, DL.is_nn, DL.is_in, DL.is_tn, DL.is_rn, DL.is_sn, DL.ix_tup, DL.ix_ref, DL.ixl_ref, DL.sl_tup, DL.sl_lw, DL.sl_ref, DL.st_ref, DL.ap_append, DL.ap_extend, DL.ap_popI, DL.ap_pop0, DL.ty_ref, DL.ln_tup, DL.ln_ref, DL.ab_int, DL.in_int, DL.in_bl, DL.mn_int, DL.mx_int, DL.sm_of, DL.al_ref, DL.an_ref, DL.li_of, DL.tu_of, DL.so_ref, DL.rd_ref, DL.go_int, DL.go_str, DL.pa_int, DL.ka_int, DL.ka_str, DL.ap_dGetI, DL.ap_dInD, DL.ap_dGet1, DL.ap_dGet2, DL.ap_dDisp1, DL.ap_dPutS, DL.ap_dStar, DL.ap_dOr, DL.ap_dSortD, DL.ap_dMinD, DL.ap_dRevL, DL.ap_dMin3, DL.ap_dNever, DL.getV_0, DL.getV_s, DL.set_0, DL.set_s, DL.startD_nil, DL.startD_cons, DL.rep_0, DL.rep_s, DL.wipe_nil, DL.wipe_cons, DL.isB_bl, DL.isN_int, DL.someD_some, DL.at0, DL.at1, DL.at2, DL.at3, DL.at4, DL.at5, DL.up1_same, DL.up_up]
      -- the cells of the bag behind the new lists
      have e3 := ((Ext.new (c := .lst ((ns.map D.int).drop b2.toNat)) hp).trans (Ext.new (c := .lst [D.int 0]) hq)).trans (Ext.new (c := .lst ((ns.map D.int).drop b2.toNat ++ [D.int 0])) hr)
      generalize up1 (up1 (up1 S p (.lst ((ns.map D.int).drop b2.toNat))) q (.lst [D.int 0])) r (.lst ((ns.map D.int).drop b2.toNat ++ [D.int 0])) = S1 at e3 ⊢
      have ha1 := e3 _ _ ha
      have hc1 := e3 _ _ hc
      unfold d__law_take_4
      try simp only [lstAt_known ha1, len4, ix4_2, DL.ap_dC, DL.ap_dVar, DL.ap_dNil, DL.ap_dCons, DL.ap_dTup, DL.ap_dLst, DL.ap_dOp, DL.ap_dB, DL.ap_dChain, DL.ap_dTru, DL.ap_dAndT, DL.ap_dOrT, DL.ap_dNotT, DL.ap_dAndV, DL.ap_dOrV, DL.ap_dNotV, DL.ap_dIf, DL.ap_dUn, DL.ap_dCall, DL.ap_dNoPart, DL.ap_dPart, DL.ap_dSl, DL.ap_dBM, DL.ap_dBM0, DL.ap_dFn, DL.ap_dLc, DL.ap_dYes, DL.ap_dRg1, DL.ap_dRg2, DL.ap_dLrg, DL.ap_dTrg, DL.ap_iAny, DL.ap_iRng1, DL.ap_iRng2, DL.ap_iRng3, DL.ap_rng1P, DL.ap_rng2P, DL.ap_rng3P, DL.ap_iZip, DL.ap_dLzip, DL.ap_dZ2, DL.ap_iEnm, DL.ap_a1, DL.ap_a2, DL.ap_sqT, DL.ap_sqR, DL.ap_dNext, DL.ap_dSeq, DL.ap_dBreak, DL.ap_dCont, DL.ap_dDrop, DL.ap_dRet, DL.ap_dRetN, DL.ap_dIfS, DL.ap_dAsg, DL.ap_dPar, DL.ap_a3, DL.ap_dPar3, DL.ap_dAug, DL.ap_dAugS, DL.ap_dFor, DL.ap_gSet, DL.ap_gTup, DL.ap_gNil, DL.ap_gCons, DL.ap_gSub, DL.tr_non, DL.tr_bl, DL.tr_int, DL.tr_str, DL.tr_tup, DL.tr_ref, DL.ad_int, DL.ad_tup, DL.ad_ref, DL.sb_int, DL.mu_int, DL.mu_tup, DL.mu_ref, DL.fd_int, DL.md_int, DL.pw_int, DL.ng_int, DL.i2_int, DL.ci_int, DL.is_bl, DL.is_nn, DL.is_in, DL.is_tn, DL.is_rn, DL.is_sn, DL.ix_tup, DL.ix_ref, DL.ixl_ref, DL.sl_tup, DL.sl_lw, DL.sl_ref, DL.st_ref, DL.ap_append, DL.ap_extend, DL.ap_popI, DL.ap_pop0, DL.ty_ref, DL.ln_tup, DL.ln_ref, DL.ab_int, DL.in_int, DL.in_bl, DL.mn_int, DL.mx_int, DL.sm_of, DL.al_ref, DL.an_ref, DL.li_of, DL.tu_of, DL.so_ref, DL.rd_ref, DL.go_int, DL.go_str, DL.pa_int, DL.ka_int, DL.ka_str, DL.ap_dGetI, DL.ap_dInD, DL.ap_dGet1, DL.ap_dGet2, DL.ap_dDisp1, DL.ap_dPutS, DL.ap_dStar, DL.ap_dOr, DL.ap_dSortD, DL.ap_dMinD, DL.ap_dRevL, DL.ap_dMin3, DL.ap_dNever, DL.getV_0, DL.getV_s, DL.set_0, DL.set_s, DL.startD_nil, DL.startD_cons, DL.rep_0, DL.rep_s, DL.wipe_nil, DL.wipe_cons, DL.isB_bl, DL.isN_int, DL.someD_some, DL.at0, DL.at1, DL.at2, DL.at3, DL.at4, DL.at5, DL.up1_same, DL.up_up]
      -- from the word of the first number on
      have mid : ∀ (b0' : Int) (S2 : Sto), S2 a = some (.lst [.int b0', .int b1, .int (b2 + 1), .ref c]) → S2 c = some (.lst (ns.map D.int)) → 0 ≤ b0' → ExtB a S S2 →
          d__law_take_2 EP { nx := d__law_take_9 EP { nx := fun _ S' => Q .non S', rt := Q }, rt := Q } [some (.ref a), some (.int m), some (.int x), none, none, none, none] S2 := by
        intro b0' S2 ha2 hc2 g0 ge
        unfold d__law_take_2
        try simp only [lstAt_known ha2, DL.ap_dC, DL.ap_dVar, DL.ap_dNil, DL.ap_dCons, DL.ap_dTup, DL.ap_dLst, DL.ap_dOp, DL.ap_dB, DL.ap_dChain, DL.ap_dTru, DL.ap_dAndT, DL.ap_dOrT, DL.ap_dNotT, DL.ap_dAndV, DL.ap_dOrV, DL.ap_dNotV, DL.ap_dIf, DL.ap_dUn, DL.ap_dCall, DL.ap_dNoPart, DL.ap_dPart, DL.ap_dSl, DL.ap_dBM, DL.ap_dBM0, DL.ap_dFn, DL.ap_dLc, DL.ap_dYes, DL.ap_dRg1, DL.ap_dRg2, DL.ap_dLrg, DL.ap_dTrg, DL.ap_iAny, DL.ap_iRng1, DL.ap_iRng2, DL.ap_iRng3, DL.ap_rng1P, DL.ap_rng2P, DL.ap_rng3P, DL.ap_iZip, DL.ap_dLzip, DL.ap_dZ2, DL.ap_iEnm, DL.ap_a1, DL.ap_a2, DL.ap_sqT, DL.ap_sqR, DL.ap_dNext, DL.ap_dSeq, DL.ap_dBreak, DL.ap_dCont, DL.ap_dDrop, DL.ap_dRet, DL.ap_dRetN, DL.ap_dIfS, DL.ap_dAsg, DL.ap_dPar, DL.ap_a3, DL.ap_dPar3, DL.ap_dAug, DL.ap_dAugS, DL.ap_dFor, DL.ap_gSet, DL.ap_gTup, DL.ap_gNil, DL.ap_gCons, DL.ap_gSub, DL.tr_non, DL.tr_bl, DL.tr_int, DL.tr_str, DL.tr_tup, DL.tr_ref, DL.ad_int, DL.ad_tup, DL.ad_ref, DL.sb_int, DL.mu_int, DL.mu_tup, DL.mu_ref, DL.fd_int, DL.md_int, DL.pw_int, DL.ng_int, DL.i2_int, DL.ci_int, DL.is_bl, DL.is_nn, DL.is_in, DL.is_tn, DL.is_rn, DL.is_sn, DL.ix_tup, DL.ix_ref, DL.ixl_ref, DL.sl_tup, DL.sl_lw, DL.sl_ref, DL.st_ref, DL.ap_append, DL.ap_extend, DL.ap_popI, DL.ap_pop0, DL.ty_ref, DL.ln_tup, DL.ln_ref, DL.ab_int, DL.in_int, DL.in_bl, DL.mn_int, DL.mx_int, DL.sm_of, DL.al_ref, DL.an_ref, DL.li_of, DL.tu_of, DL.so_ref, DL.rd_ref, DL.go_int, DL.go_str, DL.pa_int, DL.ka_int, DL.ka_str, DL.ap_dGetI, DL.ap_dInD, DL.ap_dGet1, DL.ap_dGet2, DL.ap_dDisp1, DL.ap_dPutS, DL.ap_dStar, DL.ap_dOr, DL.ap_dSortD, DL.ap_dMinD, DL.ap_dRevL, DL.ap_dMin3, DL.ap_dNever, DL.getV_0, DL.getV_s, DL.set_0, DL.set_s, DL.startD_nil, DL.startD_cons, DL.rep_0, DL.rep_s, DL.wipe_nil, DL.wipe_cons, DL.isB_bl, DL.isN_int, DL.someD_some, DL.at0, DL.at1, DL.at2, DL.at3, DL.at4, DL.at5, DL.up1_same, DL.up_up]
        refine ⟨small_mul' (by decide) (by decide), by decide, small_mul (by decide) (by decide), ?_⟩
        unfold d__law_take_1
        try simp only [lstAt_known ha2, len4, ix4_1, DL.ap_dC, DL.ap_dVar, DL.ap_dNil, DL.ap_dCons, DL.ap_dTup, DL.ap_dLst, DL.ap_dOp, DL.ap_dB, DL.ap_dChain, DL.ap_dTru, DL.ap_dAndT, DL.ap_dOrT, DL.ap_dNotT, DL.ap_dAndV, DL.ap_dOrV, DL.ap_dNotV, DL.ap_dIf, DL.ap_dUn, DL.ap_dCall, DL.ap_dNoPart, DL.ap_dPart, DL.ap_dSl, DL.ap_dBM, DL.ap_dBM0, DL.ap_dFn, DL.ap_dLc, DL.ap_dYes, DL.ap_dRg1, DL.ap_dRg2, DL.ap_dLrg, DL.ap_dTrg, DL.ap_iAny, DL.ap_iRng1, DL.ap_iRng2, DL.ap_iRng3, DL.ap_rng1P, DL.ap_rng2P, DL.ap_rng3P, DL.ap_iZip, DL.ap_dLzip, DL.ap_dZ2, DL.ap_iEnm, DL.ap_a1, DL.ap_a2, DL.ap_sqT, DL.ap_sqR, DL.ap_dNext, DL.ap_dSeq, DL.ap_dBreak, DL.ap_dCont, DL.ap_dDrop, DL.ap_dRet, DL.ap_dRetN, DL.ap_dIfS, DL.ap_dAsg, DL.ap_dPar, DL.ap_a3, DL.ap_dPar3, DL.ap_dAug, DL.ap_dAugS, DL.ap_dFor, DL.ap_gSet, DL.ap_gTup, DL.ap_gNil, DL.ap_gCons, DL.ap_gSub, DL.tr_non, DL.tr_bl, DL.tr_int, DL.tr_str, DL.tr_tup, DL.tr_ref, DL.ad_int, DL.ad_tup, DL.ad_ref, DL.sb_int, DL.mu_int, DL.mu_tup, DL.mu_ref, DL.fd_int, DL.md_int, DL.pw_int, DL.ng_int, DL.i2_int, DL.ci_int, DL.is_bl, DL.is_nn, DL.is_in, DL.is_tn, DL.is_rn, DL.is_sn, DL.ix_tup, DL.ix_ref, DL.ixl_ref, DL.sl_tup, DL.sl_lw, DL.sl_ref, DL.st_ref, DL.ap_append, DL.ap_extend, DL.ap_popI, DL.ap_pop0, DL.ty_ref, DL.ln_tup, DL.ln_ref, DL.ab_int, DL.in_int, DL.in_bl, DL.mn_int, DL.mx_int, DL.sm_of, DL.al_ref, DL.an_ref, DL.li_of, DL.tu_of, DL.so_ref, DL.rd_ref, DL.go_int, DL.go_str, DL.pa_int, DL.ka_int, DL.ka_str, DL.ap_dGetI, DL.ap_dInD, DL.ap_dGet1, DL.ap_dGet2, DL.ap_dDisp1, DL.ap_dPutS, DL.ap_dStar, DL.ap_dOr, DL.ap_dSortD, DL.ap_dMinD, DL.ap_dRevL, DL.ap_dMin3, DL.ap_dNever, DL.getV_0, DL.getV_s, DL.set_0, DL.set_s, DL.startD_nil, DL.startD_cons, DL.rep_0, DL.rep_s, DL.wipe_nil, DL.wipe_cons, DL.isB_bl, DL.isN_int, DL.someD_some, DL.at0, DL.at1, DL.at2, DL.at3, DL.at4, DL.at5, DL.up1_same, DL.up_up]
        refine ⟨by decide, ?_⟩
        have q1 : 0 ≤ (b1 * 48271 + x % 2147483647 + 7919 * (b2 + 1)) % 2147483647 := Int.emod_nonneg _ (by decide)
        have q2 : (b1 * 48271 + x % 2147483647 + 7919 * (b2 + 1)) % 2147483647 < 2147483647 := Int.emod_lt_of_pos _ (by decide)
        exact rest _ _ b0' _ (b2 + 1) _ up1_same (by rw [up1_ne nca]; exact hc2) g0 q1 (by omega) (by omega) (ge.trans ExtB.wrote)
      unfold d__law_take_3
      try simp only [DL.ap_dC, DL.ap_dVar, DL.ap_dNil, DL.ap_dCons, DL.ap_dTup, DL.ap_dLst, DL.ap_dOp, DL.ap_dB, DL.ap_dChain, DL.ap_dTru, DL.ap_dAndT, DL.ap_dOrT, DL.ap_dNotT, DL.ap_dAndV, DL.ap_dOrV, DL.ap_dNotV, DL.ap_dIf, DL.ap_dUn, DL.ap_dCall, DL.ap_dNoPart, DL.ap_dPart, DL.ap_dSl, DL.ap_dBM, DL.ap_dBM0, DL.ap_dFn, DL.ap_dLc, DL.ap_dYes, DL.ap_dRg1, DL.ap_dRg2, DL.ap_dLrg, DL.ap_dTrg, DL.ap_iAny, DL.ap_iRng1, DL.ap_iRng2, DL.ap_iRng3, DL.ap_rng1P, DL.ap_rng2P, DL.ap_rng3P, DL.ap_iZip, DL.ap_dLzip, DL.ap_dZ2, DL.ap_iEnm, DL.ap_a1, DL.ap_a2, DL.ap_sqT, DL.ap_sqR, DL.ap_dNext, DL.ap_dSeq, DL.ap_dBreak, DL.ap_dCont, DL.ap_dDrop, DL.ap_dRet, DL.ap_dRetN, DL.ap_dIfS, DL.ap_dAsg, DL.ap_dPar, DL.ap_a3, DL.ap_dPar3, DL.ap_dAug, DL.ap_dAugS, DL.ap_dFor, DL.ap_gSet, DL.ap_gTup, DL.ap_gNil, DL.ap_gCons, DL.ap_gSub, DL.tr_non, DL.tr_bl, DL.tr_int, DL.tr_str, DL.tr_tup, DL.tr_ref, DL.ad_int, DL.ad_tup, DL.ad_ref, DL.sb_int, DL.mu_int, DL.mu_tup, DL.mu_ref, DL.fd_int, DL.md_int, DL.pw_int, DL.ng_int, DL.i2_int, DL.ci_int, DL.is_bl, DL.is_nn, DL.is_in, DL.is_tn, DL.is_rn, DL.is_sn, DL.ix_tup, DL.ix_ref, DL.ixl_ref, DL.sl_tup, DL.sl_lw, DL.sl_ref, DL.st_ref, DL.ap_append, DL.ap_extend, DL.ap_popI, DL.ap_pop0, DL.ty_ref, DL.ln_tup, DL.ln_ref, DL.ab_int, DL.in_int, DL.in_bl, DL.mn_int, DL.mx_int, DL.sm_of, DL.al_ref, DL.an_ref, DL.li_of, DL.tu_of, DL.so_ref, DL.rd_ref, DL.go_int, DL.go_str, DL.pa_int, DL.ka_int, DL.ka_str, DL.ap_dGetI, DL.ap_dInD, DL.ap_dGet1, DL.ap_dGet2, DL.ap_dDisp1, DL.ap_dPutS, DL.ap_dStar, DL.ap_dOr, DL.ap_dSortD, DL.ap_dMinD, DL.ap_dRevL, DL.ap_dMin3, DL.ap_dNever, DL.getV_0, DL.getV_s, DL.set_0, DL.set_s, DL.startD_nil, DL.startD_cons, DL.rep_0, DL.rep_s, DL.wipe_nil, DL.wipe_cons, DL.isB_bl, DL.isN_int, DL.someD_some, DL.at0, DL.at1, DL.at2, DL.at3, DL.at4, DL.at5, DL.up1_same, DL.up_up]
      refine ⟨⟨by decide, by decide, by decide⟩, ?_⟩
      rw [pow18]
      have ge1 : ExtB a S (up1 S1 a (.lst [.int b0, .int b1, .int (b2 + 1), .ref c])) := e3.but.trans ExtB.wrote
      by_cases hx2 : (1000000000000000000 : Int) ≤ x
      · rw [if_pos (decide_eq_true hx2)]
        try simp only [lstAt_known (up1_same (S := S1) (a := a)), len4, ix4_0, DL.ap_dC, DL.ap_dVar, DL.ap_dNil, DL.ap_dCons, DL.ap_dTup, DL.ap_dLst, DL.ap_dOp, DL.ap_dB, DL.ap_dChain, DL.ap_dTru, DL.ap_dAndT, DL.ap_dOrT, DL.ap_dNotT, DL.ap_dAndV, DL.ap_dOrV, DL.ap_dNotV, DL.ap_dIf, DL.ap_dUn, DL.ap_dCall, DL.ap_dNoPart, DL.ap_dPart, DL.ap_dSl, DL.ap_dBM, DL.ap_dBM0, DL.ap_dFn, DL.ap_dLc, DL.ap_dYes, DL.ap_dRg1, DL.ap_dRg2, DL.ap_dLrg, DL.ap_dTrg, DL.ap_iAny, DL.ap_iRng1, DL.ap_iRng2, DL.ap_iRng3, DL.ap_rng1P, DL.ap_rng2P, DL.ap_rng3P, DL.ap_iZip, DL.ap_dLzip, DL.ap_dZ2, DL.ap_iEnm, DL.ap_a1, DL.ap_a2, DL.ap_sqT, DL.ap_sqR, DL.ap_dNext, DL.ap_dSeq, DL.ap_dBreak, DL.ap_dCont, DL.ap_dDrop, DL.ap_dRet, DL.ap_dRetN, DL.ap_dIfS, DL.ap_dAsg, DL.ap_dPar, DL.ap_a3, DL.ap_dPar3, DL.ap_dAug, DL.ap_dAugS, DL.ap_dFor, DL.ap_gSet, DL.ap_gTup, DL.ap_gNil, DL.ap_gCons, DL.ap_gSub, DL.tr_non, DL.tr_bl, DL.tr_int, DL.tr_str, DL.tr_tup, DL.tr_ref, DL.ad_int, DL.ad_tup, DL.ad_ref, DL.sb_int, DL.mu_int, DL.mu_tup, DL.mu_ref, DL.fd_int, DL.md_int, DL.pw_int, DL.ng_int, DL.i2_int, DL.ci_int, DL.is_bl, DL.is_nn, DL.is_in, DL.is_tn, DL.is_rn, DL.is_sn, DL.ix_tup, DL.ix_ref, DL.ixl_ref, DL.sl_tup, DL.sl_lw, DL.sl_ref, DL.st_ref, DL.ap_append, DL.ap_extend, DL.ap_popI, DL.ap_pop0, DL.ty_ref, DL.ln_tup, DL.ln_ref, DL.ab_int, DL.in_int, DL.in_bl, DL.mn_int, DL.mx_int, DL.sm_of, DL.al_ref, DL.an_ref, DL.li_of, DL.tu_of, DL.so_ref, DL.rd_ref, DL.go_int, DL.go_str, DL.pa_int, DL.ka_int, DL.ka_str, DL.ap_dGetI, DL.ap_dInD, DL.ap_dGet1, DL.ap_dGet2, DL.ap_dDisp1, DL.ap_dPutS, DL.ap_dStar, DL.ap_dOr, DL.ap_dSortD, DL.ap_dMinD, DL.ap_dRevL, DL.ap_dMin3, DL.ap_dNever, DL.getV_0, DL.getV_s, DL.set_0, DL.set_s, DL.startD_nil, DL.startD_cons, DL.rep_0, DL.rep_s, DL.wipe_nil, DL.wipe_cons, DL.isB_bl, DL.isN_int, DL.someD_some, DL.at0, DL.at1, DL.at2, DL.at3, DL.at4, DL.at5, DL.up1_same, DL.up_up]
        exact mid x _ up1_same (by rw [up1_ne nca]; exact hc1) hx (e3.but.trans ExtB.wrote)
      · rw [if_neg (by simpa using hx2)]
        exact mid b0 _ up1_same (by rw [up1_ne nca]; exact hc1) h0 ge1
  · rw [if_neg (by simpa using hb0)]
    exact rest none none b0 b1 b2 S ha hc h0 h1 h1' h2 (ExtB.refl a S)
end Cb
set_option Elab.async false
set_option linter.all false
set_option maxRecDepth 100000
set_option maxHeartbeats 4000000
namespace Cc
open PySem DL L2 Ca Cb
def Its (a : Addr) (S : Sto) (x : D) (xs : List D) : Prop := x = .tup xs ∨ ∃ b, x = .ref b ∧ S b = some (.lst xs) ∧ b ≠ a
def sp__law_some : FSp := fun ds S Q _ => ∃ (a c : Addr) (x : D) (xs : List D), ds = [.ref a, x] ∧ Bag a c S ∧ Its a S x xs ∧ xs ≠ [] ∧ xs.length ≤ 1000000000000 ∧
  ∀ d S', d ∈ xs → Bag a c S' → ExtB a S S' → Q d S'
def sp__law_mixed : FSp := fun ds S Q _ => ∃ (a c : Addr) (x : D) (xs : List D), ds = [.ref a, x] ∧ Bag a c S ∧ Its a S x xs ∧ isDs 62 xs = true ∧ xs.length ≤ 1000000 ∧
  ∀ p ys S', ys.Perm xs → Bag a c S' → ExtB a S S' → S p = none → S' p = some (.lst ys) → Q (.ref p) S'
structure CoinOk (k : Nat) (g cap : Int) (vs cs : List Int) : Prop where
  lv : vs.length = k
  lc : cs.length = k
  up : vs.Pairwise (· < ·)
  pos : ∀ v ∈ vs, 1 ≤ v ∧ (v ≤ 100 ∨ v ≤ g)
  cap : ∀ c ∈ cs, 0 ≤ c ∧ c ≤ cap
def coin (vs cs : List Int) : D := .tup [tI vs, tI cs]
def sp__law_coinage : FSp := fun ds S Q _ => ∃ (a c : Addr) (k : Nat) (g cap : Int), ds = [.ref a, .int (k : Nat), .int g, .int cap] ∧ Bag a c S ∧ 1 ≤ k ∧ (k : Int) ≤ g ∧ g ≤ 100000 ∧ 0 ≤ cap ∧ cap ≤ 100000000 ∧
  ∀ vs cs S', CoinOk k g cap vs cs → Bag a c S' → ExtB a S S' → Q (coin vs cs) S'
mutual
inductive Sa (S : Sto) : Nat → D → D → Prop where
  | non : Sa S 1 .non .non
  | bl (b : Bool) : Sa S 1 (.bl b) (.bl b)
  | int (i : Int) : Sa S 1 (.int i) (.int i)
  | str (z : Str) : Sa S 1 (.str z) (.str z)
  | tup {n : Nat} {xs ys : List D} : SaL S n xs ys → Sa S (n + 1) (.tup xs) (.tup ys)
  | lst {n : Nat} {a b : Addr} {xs ys : List D} : S a = some (.lst xs) → S b = some (.lst ys) → SaL S n xs ys → Sa S (n + 1) (.ref a) (.ref b)
inductive SaL (S : Sto) : Nat → List D → List D → Prop where
  | nil : SaL S 0 [] []
  | cons {n m : Nat} {x y : D} {xs ys : List D} : Sa S n x y → SaL S m xs ys → SaL S (n + m) (x :: xs) (y :: ys)
end
mutual
theorem Sa.ext {S S' : Sto} (e : Ext S S') : ∀ {n : Nat} {x y : D}, Sa S n x y → Sa S' n x y
  | _, _, _, .non => .non
  | _, _, _, .bl b => .bl b
  | _, _, _, .int b => .int b
  | _, _, _, .str b => .str b
  | _, _, _, .tup h => .tup (SaL.ext e h)
  | _, _, _, .lst h h' k => .lst (e _ _ h) (e _ _ h') (SaL.ext e k)
theorem SaL.ext {S S' : Sto} (e : Ext S S') : ∀ {n : Nat} {x y : List D}, SaL S n x y → SaL S' n x y
  | _, _, _, .nil => .nil
  | _, _, _, .cons h t => .cons (Sa.ext e h) (SaL.ext e t)
end
theorem Sa.pos {S : Sto} {n : Nat} {x y : D} (h : Sa S n x y) : 1 ≤ n := by cases h <;> omega
theorem SaL.len {S : Sto} : ∀ {n : Nat} {x y : List D}, SaL S n x y → x.length = y.length ∧ x.length ≤ n
  | _, _, _, .nil => ⟨rfl, Nat.le_refl _⟩
  | _, _, _, .cons h t => by
    have := Sa.pos h
    obtain ⟨a, b⟩ := SaL.len t
    exact ⟨by rw [List.length_cons, List.length_cons, a], by rw [List.length_cons]; omega⟩
theorem SaL.app {S : Sto} : ∀ {n m : Nat} {x y u v : List D}, SaL S n x y → SaL S m u v → SaL S (n + m) (x ++ u) (y ++ v)
  | _, _, _, _, _, _, .nil, k => by rw [Nat.zero_add]; exact k
  | _, _, _, _, _, _, .cons h t, k => by rw [Nat.add_assoc]; exact .cons h (SaL.app t k)
theorem zipD_app : ∀ {x y u v : List D}, x.length = y.length → zipD (x ++ u) (y ++ v) = zipD x y ++ zipD u v
  | [], [], _, _, _ => rfl
  | a :: x, b :: y, u, v, h => by
    show D.tup [a, b] :: zipD (x ++ u) (y ++ v) = _
    rw [zipD_app (by simpa using h)]; rfl
  | [], _ :: _, _, _, h => by simp at h
  | _ :: _, [], _, _, h => by simp at h
def sp__law_alike : FSp := fun ds S Q _ => ∃ (x y : D) (n : Nat), ds = [x, y] ∧ Sa S n x y ∧ n ≤ 1000000 ∧ ∀ S', Ext S S' → Q (.bl true) S'
def d__law_some (EP : Exc → Sto → Prop) : DS :=
  (dRet (dOp dIx (dVar 1) (dFn Cb.sp__law_take (xF EP) (dCons (dVar 0) (dCons (dCall dLen (dCons (dVar 1) dNil)) dNil)))))
def d__law_mixed_1 (EP : Exc → Sto → Prop) : DS :=
  (dSeq (dWhile (dB (dOp dNe (dVar 2) (dLst dNil))) (dDrop (dBM "list" dAppend (dVar 3) (dCons (dBM "list" dPopI (dVar 2) (dCons (dFn Cb.sp__law_take (xF EP) (dCons (dVar 0) (dCons (dCall dLen (dCons (dVar 2) dNil)) dNil))) dNil)) dNil))))
  (dRet (dVar 3)))
def d__law_mixed (EP : Exc → Sto → Prop) : DS :=
  (dSeq (dPar 2 3 (dCons (dCall dList1 (dCons (dVar 1) dNil)) (dCons (dLst dNil) dNil)))
  (d__law_mixed_1 EP))
def d__law_coinage_1 (EP : Exc → Sto → Prop) : DS :=
  (dRet (dTup (dCons (dCall dTuple1 (dCons (dVar 5) dNil)) (dCons (dCall dTuple1 (dCons (dLc (iAny (dVar 5)) (gSet 6) dYes (dFn Cb.sp__law_take xNo (dCons (dVar 0) (dCons (dOp dAdd (dVar 3) (dC (.int 1))) dNil))) [6]) dNil)) dNil))))
def d__law_coinage_2 (EP : Exc → Sto → Prop) : DS :=
  (dSeq (dIfS (dOrT (dB (dOp dEq (dFn Cb.sp__law_take (xF EP) (dCons (dVar 0) (dCons (dC (.int 2)) dNil))) (dC (.int 0)))) (dB (dOp (dCmpI (fun i j => decide (i < j))) (dCall dLen (dCons (dVar 5) dNil)) (dVar 1)))) (dAsg (dCall dSortI (dCons (dSl dSlc (dFn sp__law_mixed (xF EP) (dCons (dVar 0) (dCons (dLrg (dRg2 (dC (.int 1)) (dOp dAdd (dVar 2) (dC (.int 1))))) dNil))) dNoPart (dPart (dVar 1))) dNil)) (gSet 5)) dNext)
  (d__law_coinage_1 EP))
def d__law_coinage_3 (EP : Exc → Sto → Prop) : DS :=
  (dSeq (dAsg (dCall dSortI (dCons (dSl dSlc (dVar 4) dNoPart (dPart (dVar 1))) dNil)) (gSet 5))
  (d__law_coinage_2 EP))
def d__law_coinage (EP : Exc → Sto → Prop) : DS :=
  (dSeq (dAsg (dFn sp__law_some (xF EP) (dCons (dVar 0) (dCons (dLst (dCons (dLst (dCons (dC (.int 1)) (dCons (dC (.int 2)) (dCons (dC (.int 5)) (dCons (dC (.int 10)) dNil))))) (dCons (dLst (dCons (dC (.int 5)) (dCons (dC (.int 10)) (dCons (dC (.int 25)) (dCons (dC (.int 100)) dNil))))) (dCons (dLst (dCons (dC (.int 1)) (dCons (dC (.int 3)) (dCons (dC (.int 4)) dNil)))) (dCons (dLst (dCons (dC (.int 2)) (dCons (dC (.int 3)) (dCons (dC (.int 7)) dNil)))) (dCons (dLst (dCons (dC (.int 1)) (dCons (dC (.int 5)) (dCons (dC (.int 10)) (dCons (dC (.int 50)) dNil))))) (dCons (dLst (dCons (dC (.int 3)) (dCons (dC (.int 6)) (dCons (dC (.int 12)) (dCons (dC (.int 24)) dNil))))) dNil))))))) dNil))) (gSet 4))
  (d__law_coinage_3 EP))
def d__law_alike_1 (EP : Exc → Sto → Prop) : DS :=
  (dDrop (dBM "list" dExtend (dVar 2) (dCons (dLzip (dCons (dVar 4) (dCons (dVar 5) dNil))) dNil)))
def d__law_alike_2 (EP : Exc → Sto → Prop) : DS :=
  (dIfS (dTru (dCall dIsi (dCons (dVar 4) (dCons (dTup (dCons (dC (.ty "tuple")) (dCons (dC (.ty "list")) dNil))) dNil)))) (dSeq (dIfS (dOrT (dB (dOp dNe (dCall dIsi (dCons (dVar 4) (dCons (dC (.ty "tuple")) dNil))) (dCall dIsi (dCons (dVar 5) (dCons (dC (.ty "tuple")) dNil))))) (dB (dOp dNe (dCall dLen (dCons (dVar 4) dNil)) (dCall dLen (dCons (dVar 5) dNil))))) (dRet (dC (.bl false))) dNext)
  (d__law_alike_1 EP)) (dIfS (dB (dOp dNe (dVar 4) (dVar 5))) (dRet (dC (.bl false))) dNext))
def d__law_alike_3 (EP : Exc → Sto → Prop) : DS :=
  (dSeq (dIfS (dB (dOp dNe (dCall dIsi (dCons (dVar 4) (dCons (dTup (dCons (dC (.ty "tuple")) (dCons (dC (.ty "list")) dNil))) dNil))) (dCall dIsi (dCons (dVar 5) (dCons (dTup (dCons (dC (.ty "tuple")) (dCons (dC (.ty "list")) dNil))) dNil))))) (dRet (dC (.bl false))) dNext)
  (d__law_alike_2 EP))
def d__law_alike_4 (EP : Exc → Sto → Prop) : DS :=
  (dSeq (dIfS (dOrT (dB (dOp dNe (dCall dIsi (dCons (dVar 4) (dCons (dC (.ty "bool")) dNil))) (dCall dIsi (dCons (dVar 5) (dCons (dC (.ty "bool")) dNil))))) (dB (dOp dNe (dCall dIsi (dCons (dVar 4) (dCons (dC (.ty "str")) dNil))) (dCall dIsi (dCons (dVar 5) (dCons (dC (.ty "str")) dNil)))))) (dRet (dC (.bl false))) dNext)
  (d__law_alike_3 EP))
def d__law_alike_5 (EP : Exc → Sto → Prop) : DS :=
  (dSeq (dAug (dI2 fun i j => i + j) 3 (dC (.int 1)))
  (d__law_alike_4 EP))
def d__law_alike_6 (EP : Exc → Sto → Prop) : DS :=
  (dSeq (dWhile (dB (dOp (dCmpI (fun i j => decide (i < j))) (dVar 3) (dCall dLen (dCons (dVar 2) dNil)))) (dSeq (dAsg (dOp dIx (dVar 2) (dVar 3)) (gTup 2 (gCons (gSet 4) (gCons (gSet 5) gNil))))
  (d__law_alike_5 EP)))
  (dRet (dC (.bl true))))
def d__law_alike (EP : Exc → Sto → Prop) : DS :=
  (dSeq (dPar 2 3 (dCons (dLst (dCons (dTup (dCons (dVar 0) (dCons (dVar 1) dNil))) dNil)) (dCons (dC (.int 0)) dNil)))
  (d__law_alike_6 EP))
theorem its_sq {a : Addr} {S : Sto} {x : D} {xs : List D} {P : List D → (Sto → Prop) → Prop} (h : Its a S x xs) (p : ∀ chk, P xs chk) : sqD x S P := by
  rcases h with rfl | ⟨b, rfl, hb, _⟩
  · exact p _
  · exact ⟨xs, hb, p _⟩
theorem its_len {a : Addr} {S : Sto} {x : D} {xs : List D} {Q : DQ} (h : Its a S x xs) (q : Q (.int xs.length) S) : dLen [x] S Q := by
  rcases h with rfl | ⟨b, rfl, hb, _⟩
  · exact q
  · exact ⟨xs, hb, q⟩
theorem its_ix {a : Addr} {S : Sto} {x d : D} {xs : List D} {i : Int} {Q : DQ} (h : Its a S x xs) (e : atI xs i = some d) (q : Q d S) : dIx x (.int i) S Q := by
  rcases h with rfl | ⟨b, rfl, hb, _⟩
  · exact ⟨d, e, q⟩
  · exact ⟨xs, d, hb, e, q⟩
theorem Its.extB {a : Addr} {S S' : Sto} {x : D} {xs : List D} (h : Its a S x xs) (e : ExtB a S S') : Its a S' x xs := by
  rcases h with rfl | ⟨b, rfl, hb, n⟩
  · exact .inl rfl
  · exact .inr ⟨b, rfl, e b _ n hb, n⟩
theorem len__law_some : ∀ ds S P EP, sp__law_some ds S P EP → ds.length = 2 := by rintro _ S P EP ⟨a, c, x, xs, rfl, _⟩; rfl
theorem pure__law_some : ∀ ds S Q EP, sp__law_some ds S Q EP → d__law_some EP { nx := fun _ S' => Q .non S', rt := Q } (startD 2 ds) S := by
  rintro ds S Q EP ⟨a, c, x, xs, rfl, hb, hx, hne, hl, h⟩
  unfold d__law_some
  try simp only [DL.ap_dC, DL.ap_dVar, DL.ap_dNil, DL.ap_dCons, DL.ap_dTup, DL.ap_dLst, DL.ap_dOp, DL.ap_dB, DL.ap_dChain, DL.ap_dTru, DL.ap_dAndT, DL.ap_dOrT, DL.ap_dNotT, DL.ap_dAndV, DL.ap_dOrV, DL.ap_dNotV, DL.ap_dIf, DL.ap_dUn, DL.ap_dCall, DL.ap_dNoPart, DL.ap_dPart, DL.ap_dSl, DL.ap_dBM, DL.ap_dBM0, DL.ap_dFn, DL.ap_dLc, DL.ap_dYes, DL.ap_dRg1, DL.ap_dRg2, DL.ap_dLrg, DL.ap_dTrg, DL.ap_iAny, DL.ap_iRng1, DL.ap_iRng2, DL.ap_iRng3, DL.ap_rng1P, DL.ap_rng2P, DL.ap_rng3P, DL.ap_iZip, DL.ap_dLzip, DL.ap_dZ2, DL.ap_iEnm, DL.ap_a1, DL.ap_a2, DL.ap_sqT, DL.ap_sqR, DL.ap_dNext, DL.ap_dSeq, DL.ap_dBreak, DL.ap_dCont, DL.ap_dDrop, DL.ap_dRet, DL.ap_dRetN, DL.ap_dIfS, DL.ap_dAsg, DL.ap_dPar, DL.ap_a3, DL.ap_dPar3, DL.ap_dAug, DL.ap_dAugS, DL.ap_dFor, DL.ap_gSet, DL.ap_gTup, DL.ap_gNil, DL.ap_gCons, DL.ap_gSub, DL.tr_non, DL.tr_bl, DL.tr_int, DL.tr_str, DL.tr_tup, DL.tr_ref, DL.ad_int, DL.ad_tup, DL.ad_ref, DL.sb_int, DL.mu_int, DL.mu_tup, DL.mu_ref, DL.fd_int, DL.md_int, DL.pw_int, DL.ng_int, DL.i2_int, DL.ci_int, DL.is_bl, DL.is_nn, DL.is_in, DL.is_tn, DL.is_rn, DL.is_sn, DL.ix_tup, DL.ix_ref, DL.ixl_ref, DL.sl_tup, DL.sl_lw, DL.sl_ref, DL.st_ref, DL.ap_append, DL.ap_extend, DL.ap_popI, DL.ap_pop0, DL.ty_ref, DL.ln_tup, DL.ln_ref, DL.ab_int, DL.in_int, DL.in_bl, DL.mn_int, DL.mx_int, DL.sm_of, DL.al_ref, DL.an_ref, DL.li_of, DL.tu_of, DL.so_ref, DL.rd_ref, DL.go_int, DL.go_str, DL.pa_int, DL.ka_int, DL.ka_str, DL.ap_dGetI, DL.ap_dInD, DL.ap_dGet1, DL.ap_dGet2, DL.ap_dDisp1, DL.ap_dPutS, DL.ap_dStar, DL.ap_dOr, DL.ap_dSortD, DL.ap_dMinD, DL.ap_dRevL, DL.ap_dMin3, DL.ap_dNever, DL.getV_0, DL.getV_s, DL.set_0, DL.set_s, DL.startD_nil, DL.startD_cons, DL.rep_0, DL.rep_s, DL.wipe_nil, DL.wipe_cons, DL.isB_bl, DL.isN_int, DL.someD_some, DL.at0, DL.at1, DL.at2, DL.at3, DL.at4, DL.at5, DL.up1_same, DL.up_up]
  have hpos : 0 < xs.length := List.length_pos_iff.mpr hne
  refine its_len hx ⟨a, c, _, rfl, hb, by omega, by omega, fun v S1 h1 h2 hb1 e1 => ?_⟩
  obtain ⟨k, rfl⟩ := Int.eq_ofNat_of_zero_le h1
  have hk : k < xs.length := by omega
  exact its_ix (hx.extB e1) (atn (List.getElem?_eq_getElem hk)) (h _ _ (List.getElem_mem hk) hb1 e1)
theorem erase_perm {α : Type} : ∀ {xs : List α} {j : Nat} {y : α}, xs[j]? = some y → (y :: xs.eraseIdx j).Perm xs
  | [], _, _, h => by simp at h
  | x :: r, 0, y, h => by simp at h; subst h; exact .refl _
  | x :: r, j + 1, y, h => by
    have := erase_perm (xs := r) (j := j) (y := y) (by simpa using h)
    exact (List.Perm.swap x y _).trans (this.cons x)
theorem isDs_erase {n : Nat} {xs : List D} {j : Nat} (h : isDs n xs = true) : isDs n (xs.eraseIdx j) = true := by
  rw [isDs_all] at h ⊢
  exact List.all_eq_true.mpr fun x hx => List.all_eq_true.mp h x (List.mem_of_mem_eraseIdx hx)
theorem isDs_up {n : Nat} {xs : List D} (h : isDs n xs = true) : isDs (n + 1) xs = true := by
  have up : ∀ (n : Nat) (x : D), isD n x = true → isD (n + 1) x = true := by
    intro n
    induction n with
    | zero => intro x hx; cases x <;> simp_all [isD]
    | succ n ih =>
      intro x hx
      cases x <;> first
        | (simp_all [isD]; done)
        | skip
      rename_i xs
      have hx' : isDs n xs = true := by simpa [isD] using hx
      show isDs (n + 1) xs = true
      rw [isDs_all] at hx' ⊢
      exact List.all_eq_true.mpr fun y hy => ih y (List.all_eq_true.mp hx' y hy)
  rw [isDs_all] at h ⊢
  exact List.all_eq_true.mpr fun x hx => up n x (List.all_eq_true.mp h x hx)
theorem len__law_mixed : ∀ ds S P EP, sp__law_mixed ds S P EP → ds.length = 2 := by rintro _ S P EP ⟨a, c, x, xs, rfl, _⟩; rfl
theorem pure__law_mixed : ∀ ds S Q EP, sp__law_mixed ds S Q EP → d__law_mixed EP { nx := fun _ S' => Q .non S', rt := Q } (startD 4 ds) S := by
  rintro ds S Q EP ⟨a, c, x, xs, rfl, hb, hx, hD, hl, h⟩
  unfold d__law_mixed
  try simp only [DL.ap_dC, DL.ap_dVar, DL.ap_dNil, DL.ap_dCons, DL.ap_dTup, DL.ap_dLst, DL.ap_dOp, DL.ap_dB, DL.ap_dChain, DL.ap_dTru, DL.ap_dAndT, DL.ap_dOrT, DL.ap_dNotT, DL.ap_dAndV, DL.ap_dOrV, DL.ap_dNotV, DL.ap_dIf, DL.ap_dUn, DL.ap_dCall, DL.ap_dNoPart, DL.ap_dPart, DL.ap_dSl, DL.ap_dBM, DL.ap_dBM0, DL.ap_dFn, DL.ap_dLc, DL.ap_dYes, DL.ap_dRg1, DL.ap_dRg2, DL.ap_dLrg, DL.ap_dTrg, DL.ap_iAny, DL.ap_iRng1, DL.ap_iRng2, DL.ap_iRng3, DL.ap_rng1P, DL.ap_rng2P, DL.ap_rng3P, DL.ap_iZip, DL.ap_dLzip, DL.ap_dZ2, DL.ap_iEnm, DL.ap_a1, DL.ap_a2, DL.ap_sqT, DL.ap_sqR, DL.ap_dNext, DL.ap_dSeq, DL.ap_dBreak, DL.ap_dCont, DL.ap_dDrop, DL.ap_dRet, DL.ap_dRetN, DL.ap_dIfS, DL.ap_dAsg, DL.ap_dPar, DL.ap_a3, DL.ap_dPar3, DL.ap_dAug, DL.ap_dAugS, DL.ap_dFor, DL.ap_gSet, DL.ap_gTup, DL.ap_gNil, DL.ap_gCons, DL.ap_gSub, DL.tr_non, DL.tr_bl, DL.tr_int, DL.tr_str, DL.tr_tup, DL.tr_ref, DL.ad_int, DL.ad_tup, DL.ad_ref, DL.sb_int, DL.mu_int, DL.mu_tup, DL.mu_ref, DL.fd_int, DL.md_int, DL.pw_int, DL.ng_int, DL.i2_int, DL.ci_int, DL.is_bl, DL.is_nn, DL.is_in, DL.is_tn, DL.is_rn, DL.is_sn, DL.ix_tup, DL.ix_ref, DL.ixl_ref, DL.sl_tup, DL.sl_lw, DL.sl_ref, DL.st_ref, DL.ap_append, DL.ap_extend, DL.ap_popI, DL.ap_pop0, DL.ty_ref, DL.ln_tup, DL.ln_ref, DL.ab_int, DL.in_int, DL.in_bl, DL.mn_int, DL.mx_int, DL.sm_of, DL.al_ref, DL.an_ref, DL.li_of, DL.tu_of, DL.so_ref, DL.rd_ref, DL.go_int, DL.go_str, DL.pa_int, DL.ka_int, DL.ka_str, DL.ap_dGetI, DL.ap_dInD, DL.ap_dGet1, DL.ap_dGet2, DL.ap_dDisp1, DL.ap_dPutS, DL.ap_dStar, DL.ap_dOr, DL.ap_dSortD, DL.ap_dMinD, DL.ap_dRevL, DL.ap_dMin3, DL.ap_dNever, DL.getV_0, DL.getV_s, DL.set_0, DL.set_s, DL.startD_nil, DL.startD_cons, DL.rep_0, DL.rep_s, DL.wipe_nil, DL.wipe_cons, DL.isB_bl, DL.isN_int, DL.someD_some, DL.at0, DL.at1, DL.at2, DL.at3, DL.at4, DL.at5, DL.up1_same, DL.up_up]
  refine its_sq hx fun _ => ?_
  (intro l n1; generalize eS_ : up1 _ l _ = S1; have e1 := Ext.new_eq eS_ n1; have f1 := up_eq eS_; clear eS_)
  refine ⟨line (show 0 ≤ 1000000 by decide), ?_⟩
  (intro f n2; generalize eS_ : up1 _ f _ = S2; have e2 := Ext.new_eq eS_ n2; have f2 := up_eq eS_; clear eS_)
  unfold d__law_mixed_1
  try simp only [DL.ap_dC, DL.ap_dVar, DL.ap_dNil, DL.ap_dCons, DL.ap_dTup, DL.ap_dLst, DL.ap_dOp, DL.ap_dB, DL.ap_dChain, DL.ap_dTru, DL.ap_dAndT, DL.ap_dOrT, DL.ap_dNotT, DL.ap_dAndV, DL.ap_dOrV, DL.ap_dNotV, DL.ap_dIf, DL.ap_dUn, DL.ap_dCall, DL.ap_dNoPart, DL.ap_dPart, DL.ap_dSl, DL.ap_dBM, DL.ap_dBM0, DL.ap_dFn, DL.ap_dLc, DL.ap_dYes, DL.ap_dRg1, DL.ap_dRg2, DL.ap_dLrg, DL.ap_dTrg, DL.ap_iAny, DL.ap_iRng1, DL.ap_iRng2, DL.ap_iRng3, DL.ap_rng1P, DL.ap_rng2P, DL.ap_rng3P, DL.ap_iZip, DL.ap_dLzip, DL.ap_dZ2, DL.ap_iEnm, DL.ap_a1, DL.ap_a2, DL.ap_sqT, DL.ap_sqR, DL.ap_dNext, DL.ap_dSeq, DL.ap_dBreak, DL.ap_dCont, DL.ap_dDrop, DL.ap_dRet, DL.ap_dRetN, DL.ap_dIfS, DL.ap_dAsg, DL.ap_dPar, DL.ap_a3, DL.ap_dPar3, DL.ap_dAug, DL.ap_dAugS, DL.ap_dFor, DL.ap_gSet, DL.ap_gTup, DL.ap_gNil, DL.ap_gCons, DL.ap_gSub, DL.tr_non, DL.tr_bl, DL.tr_int, DL.tr_str, DL.tr_tup, DL.tr_ref, DL.ad_int, DL.ad_tup, DL.ad_ref, DL.sb_int, DL.mu_int, DL.mu_tup, DL.mu_ref, DL.fd_int, DL.md_int, DL.pw_int, DL.ng_int, DL.i2_int, DL.ci_int, DL.is_bl, DL.is_nn, DL.is_in, DL.is_tn, DL.is_rn, DL.is_sn, DL.ix_tup, DL.ix_ref, DL.ixl_ref, DL.sl_tup, DL.sl_lw, DL.sl_ref, DL.st_ref, DL.ap_append, DL.ap_extend, DL.ap_popI, DL.ap_pop0, DL.ty_ref, DL.ln_tup, DL.ln_ref, DL.ab_int, DL.in_int, DL.in_bl, DL.mn_int, DL.mx_int, DL.sm_of, DL.al_ref, DL.an_ref, DL.li_of, DL.tu_of, DL.so_ref, DL.rd_ref, DL.go_int, DL.go_str, DL.pa_int, DL.ka_int, DL.ka_str, DL.ap_dGetI, DL.ap_dInD, DL.ap_dGet1, DL.ap_dGet2, DL.ap_dDisp1, DL.ap_dPutS, DL.ap_dStar, DL.ap_dOr, DL.ap_dSortD, DL.ap_dMinD, DL.ap_dRevL, DL.ap_dMin3, DL.ap_dNever, DL.getV_0, DL.getV_s, DL.set_0, DL.set_s, DL.startD_nil, DL.startD_cons, DL.rep_0, DL.rep_s, DL.wipe_nil, DL.wipe_cons, DL.isB_bl, DL.isN_int, DL.someD_some, DL.at0, DL.at1, DL.at2, DL.at3, DL.at4, DL.at5, DL.up1_same, DL.up_up]
  have hb2 := (hb.ext e1).ext e2
  have nl := hb.ne n1
  have nf0 : S f = none := e1.none_of n2
  have nf := hb.ne nf0
  have lf : l ≠ f := ne_new f1 n2
  refine ⟨fun m ρ S3 => ∃ rem done : List D, ρ = [some (.ref a), some x, some (.ref l), some (.ref f)] ∧ S3 l = some (.lst rem) ∧ S3 f = some (.lst done) ∧ (done ++ rem).Perm xs ∧ isDs 62 rem = true ∧ m = rem.length ∧ Bag a c S3 ∧ ExtB a S S3, ⟨xs.length, xs, [], rfl, e2 _ _ f1, f2, .refl _, hD, rfl, hb2, (e1.trans e2).but⟩, ?_⟩
  rintro m ρ S3 ⟨rem, done, rfl, g1, g2, gp, gd, rfl, gb, ge⟩
  try simp only [DL.ap_dC, DL.ap_dVar, DL.ap_dNil, DL.ap_dCons, DL.ap_dTup, DL.ap_dLst, DL.ap_dOp, DL.ap_dB, DL.ap_dChain, DL.ap_dTru, DL.ap_dAndT, DL.ap_dOrT, DL.ap_dNotT, DL.ap_dAndV, DL.ap_dOrV, DL.ap_dNotV, DL.ap_dIf, DL.ap_dUn, DL.ap_dCall, DL.ap_dNoPart, DL.ap_dPart, DL.ap_dSl, DL.ap_dBM, DL.ap_dBM0, DL.ap_dFn, DL.ap_dLc, DL.ap_dYes, DL.ap_dRg1, DL.ap_dRg2, DL.ap_dLrg, DL.ap_dTrg, DL.ap_iAny, DL.ap_iRng1, DL.ap_iRng2, DL.ap_iRng3, DL.ap_rng1P, DL.ap_rng2P, DL.ap_rng3P, DL.ap_iZip, DL.ap_dLzip, DL.ap_dZ2, DL.ap_iEnm, DL.ap_a1, DL.ap_a2, DL.ap_sqT, DL.ap_sqR, DL.ap_dNext, DL.ap_dSeq, DL.ap_dBreak, DL.ap_dCont, DL.ap_dDrop, DL.ap_dRet, DL.ap_dRetN, DL.ap_dIfS, DL.ap_dAsg, DL.ap_dPar, DL.ap_a3, DL.ap_dPar3, DL.ap_dAug, DL.ap_dAugS, DL.ap_dFor, DL.ap_gSet, DL.ap_gTup, DL.ap_gNil, DL.ap_gCons, DL.ap_gSub, DL.tr_non, DL.tr_bl, DL.tr_int, DL.tr_str, DL.tr_tup, DL.tr_ref, DL.ad_int, DL.ad_tup, DL.ad_ref, DL.sb_int, DL.mu_int, DL.mu_tup, DL.mu_ref, DL.fd_int, DL.md_int, DL.pw_int, DL.ng_int, DL.i2_int, DL.ci_int, DL.is_bl, DL.is_nn, DL.is_in, DL.is_tn, DL.is_rn, DL.is_sn, DL.ix_tup, DL.ix_ref, DL.ixl_ref, DL.sl_tup, DL.sl_lw, DL.sl_ref, DL.st_ref, DL.ap_append, DL.ap_extend, DL.ap_popI, DL.ap_pop0, DL.ty_ref, DL.ln_tup, DL.ln_ref, DL.ab_int, DL.in_int, DL.in_bl, DL.mn_int, DL.mx_int, DL.sm_of, DL.al_ref, DL.an_ref, DL.li_of, DL.tu_of, DL.so_ref, DL.rd_ref, DL.go_int, DL.go_str, DL.pa_int, DL.ka_int, DL.ka_str, DL.ap_dGetI, DL.ap_dInD, DL.ap_dGet1, DL.ap_dGet2, DL.ap_dDisp1, DL.ap_dPutS, DL.ap_dStar, DL.ap_dOr, DL.ap_dSortD, DL.ap_dMinD, DL.ap_dRevL, DL.ap_dMin3, DL.ap_dNever, DL.getV_0, DL.getV_s, DL.set_0, DL.set_s, DL.startD_nil, DL.startD_cons, DL.rep_0, DL.rep_s, DL.wipe_nil, DL.wipe_cons, DL.isB_bl, DL.isN_int, DL.someD_some, DL.at0, DL.at1, DL.at2, DL.at3, DL.at4, DL.at5, DL.up1_same, DL.up_up]
  refine ⟨line (show 0 ≤ 1000000 by decide), ?_⟩
  (intro q n4; generalize eS_ : up1 _ q _ = S4; have e4 := Ext.new_eq eS_ n4; have f4 := up_eq eS_; clear eS_)
  refine ne_RR (e4 _ _ g1) f4 (isDs_up gd) rfl ?_
  rw [eqDs_nil]
  try simp only [DL.ap_dC, DL.ap_dVar, DL.ap_dNil, DL.ap_dCons, DL.ap_dTup, DL.ap_dLst, DL.ap_dOp, DL.ap_dB, DL.ap_dChain, DL.ap_dTru, DL.ap_dAndT, DL.ap_dOrT, DL.ap_dNotT, DL.ap_dAndV, DL.ap_dOrV, DL.ap_dNotV, DL.ap_dIf, DL.ap_dUn, DL.ap_dCall, DL.ap_dNoPart, DL.ap_dPart, DL.ap_dSl, DL.ap_dBM, DL.ap_dBM0, DL.ap_dFn, DL.ap_dLc, DL.ap_dYes, DL.ap_dRg1, DL.ap_dRg2, DL.ap_dLrg, DL.ap_dTrg, DL.ap_iAny, DL.ap_iRng1, DL.ap_iRng2, DL.ap_iRng3, DL.ap_rng1P, DL.ap_rng2P, DL.ap_rng3P, DL.ap_iZip, DL.ap_dLzip, DL.ap_dZ2, DL.ap_iEnm, DL.ap_a1, DL.ap_a2, DL.ap_sqT, DL.ap_sqR, DL.ap_dNext, DL.ap_dSeq, DL.ap_dBreak, DL.ap_dCont, DL.ap_dDrop, DL.ap_dRet, DL.ap_dRetN, DL.ap_dIfS, DL.ap_dAsg, DL.ap_dPar, DL.ap_a3, DL.ap_dPar3, DL.ap_dAug, DL.ap_dAugS, DL.ap_dFor, DL.ap_gSet, DL.ap_gTup, DL.ap_gNil, DL.ap_gCons, DL.ap_gSub, DL.tr_non, DL.tr_bl, DL.tr_int, DL.tr_str, DL.tr_tup, DL.tr_ref, DL.ad_int, DL.ad_tup, DL.ad_ref, DL.sb_int, DL.mu_int, DL.mu_tup, DL.mu_ref, DL.fd_int, DL.md_int, DL.pw_int, DL.ng_int, DL.i2_int, DL.ci_int, DL.is_bl, DL.is_nn, DL.is_in, DL.is_tn, DL.is_rn, DL.is_sn, DL.ix_tup, DL.ix_ref, DL.ixl_ref, DL.sl_tup, DL.sl_lw, DL.sl_ref, DL.st_ref, DL.ap_append, DL.ap_extend, DL.ap_popI, DL.ap_pop0, DL.ty_ref, DL.ln_tup, DL.ln_ref, DL.ab_int, DL.in_int, DL.in_bl, DL.mn_int, DL.mx_int, DL.sm_of, DL.al_ref, DL.an_ref, DL.li_of, DL.tu_of, DL.so_ref, DL.rd_ref, DL.go_int, DL.go_str, DL.pa_int, DL.ka_int, DL.ka_str, DL.ap_dGetI, DL.ap_dInD, DL.ap_dGet1, DL.ap_dGet2, DL.ap_dDisp1, DL.ap_dPutS, DL.ap_dStar, DL.ap_dOr, DL.ap_dSortD, DL.ap_dMinD, DL.ap_dRevL, DL.ap_dMin3, DL.ap_dNever, DL.getV_0, DL.getV_s, DL.set_0, DL.set_s, DL.startD_nil, DL.startD_cons, DL.rep_0, DL.rep_s, DL.wipe_nil, DL.wipe_cons, DL.isB_bl, DL.isN_int, DL.someD_some, DL.at0, DL.at1, DL.at2, DL.at3, DL.at4, DL.at5, DL.up1_same, DL.up_up]
  have hlen : done.length + rem.length = xs.length := by rw [← List.length_append]; exact gp.length_eq
  cases rem with
  | nil =>
    simp only [List.isEmpty_nil, Bool.not_true, Bool.false_eq_true, if_false]
    rw [List.append_nil] at gp
    exact h f done S4 gp (gb.ext e4) (ge.trans e4.but) nf0 (e4 _ _ g2)
  | cons y0 rem0 =>
    simp only [List.isEmpty_cons, Bool.not_false, if_true]
    try simp only [DL.ap_dC, DL.ap_dVar, DL.ap_dNil, DL.ap_dCons, DL.ap_dTup, DL.ap_dLst, DL.ap_dOp, DL.ap_dB, DL.ap_dChain, DL.ap_dTru, DL.ap_dAndT, DL.ap_dOrT, DL.ap_dNotT, DL.ap_dAndV, DL.ap_dOrV, DL.ap_dNotV, DL.ap_dIf, DL.ap_dUn, DL.ap_dCall, DL.ap_dNoPart, DL.ap_dPart, DL.ap_dSl, DL.ap_dBM, DL.ap_dBM0, DL.ap_dFn, DL.ap_dLc, DL.ap_dYes, DL.ap_dRg1, DL.ap_dRg2, DL.ap_dLrg, DL.ap_dTrg, DL.ap_iAny, DL.ap_iRng1, DL.ap_iRng2, DL.ap_iRng3, DL.ap_rng1P, DL.ap_rng2P, DL.ap_rng3P, DL.ap_iZip, DL.ap_dLzip, DL.ap_dZ2, DL.ap_iEnm, DL.ap_a1, DL.ap_a2, DL.ap_sqT, DL.ap_sqR, DL.ap_dNext, DL.ap_dSeq, DL.ap_dBreak, DL.ap_dCont, DL.ap_dDrop, DL.ap_dRet, DL.ap_dRetN, DL.ap_dIfS, DL.ap_dAsg, DL.ap_dPar, DL.ap_a3, DL.ap_dPar3, DL.ap_dAug, DL.ap_dAugS, DL.ap_dFor, DL.ap_gSet, DL.ap_gTup, DL.ap_gNil, DL.ap_gCons, DL.ap_gSub, DL.tr_non, DL.tr_bl, DL.tr_int, DL.tr_str, DL.tr_tup, DL.tr_ref, DL.ad_int, DL.ad_tup, DL.ad_ref, DL.sb_int, DL.mu_int, DL.mu_tup, DL.mu_ref, DL.fd_int, DL.md_int, DL.pw_int, DL.ng_int, DL.i2_int, DL.ci_int, DL.is_bl, DL.is_nn, DL.is_in, DL.is_tn, DL.is_rn, DL.is_sn, DL.ix_tup, DL.ix_ref, DL.ixl_ref, DL.sl_tup, DL.sl_lw, DL.sl_ref, DL.st_ref, DL.ap_append, DL.ap_extend, DL.ap_popI, DL.ap_pop0, DL.ty_ref, DL.ln_tup, DL.ln_ref, DL.ab_int, DL.in_int, DL.in_bl, DL.mn_int, DL.mx_int, DL.sm_of, DL.al_ref, DL.an_ref, DL.li_of, DL.tu_of, DL.so_ref, DL.rd_ref, DL.go_int, DL.go_str, DL.pa_int, DL.ka_int, DL.ka_str, DL.ap_dGetI, DL.ap_dInD, DL.ap_dGet1, DL.ap_dGet2, DL.ap_dDisp1, DL.ap_dPutS, DL.ap_dStar, DL.ap_dOr, DL.ap_dSortD, DL.ap_dMinD, DL.ap_dRevL, DL.ap_dMin3, DL.ap_dNever, DL.getV_0, DL.getV_s, DL.set_0, DL.set_s, DL.startD_nil, DL.startD_cons, DL.rep_0, DL.rep_s, DL.wipe_nil, DL.wipe_cons, DL.isB_bl, DL.isN_int, DL.someD_some, DL.at0, DL.at1, DL.at2, DL.at3, DL.at4, DL.at5, DL.up1_same, DL.up_up]
    refine ⟨lstAt_of (e4 _ _ g2) trivial, lstAt_of (e4 _ _ g1) trivial, lstAt_of (e4 _ _ g1) ⟨a, c, _, rfl, gb.ext e4, by simp only [List.length_cons]; omega, by simp only [List.length_cons] at hlen ⊢; omega, fun v S5 v0 v1 hb5 e5 => ?_⟩⟩
    try simp only [DL.ap_dC, DL.ap_dVar, DL.ap_dNil, DL.ap_dCons, DL.ap_dTup, DL.ap_dLst, DL.ap_dOp, DL.ap_dB, DL.ap_dChain, DL.ap_dTru, DL.ap_dAndT, DL.ap_dOrT, DL.ap_dNotT, DL.ap_dAndV, DL.ap_dOrV, DL.ap_dNotV, DL.ap_dIf, DL.ap_dUn, DL.ap_dCall, DL.ap_dNoPart, DL.ap_dPart, DL.ap_dSl, DL.ap_dBM, DL.ap_dBM0, DL.ap_dFn, DL.ap_dLc, DL.ap_dYes, DL.ap_dRg1, DL.ap_dRg2, DL.ap_dLrg, DL.ap_dTrg, DL.ap_iAny, DL.ap_iRng1, DL.ap_iRng2, DL.ap_iRng3, DL.ap_rng1P, DL.ap_rng2P, DL.ap_rng3P, DL.ap_iZip, DL.ap_dLzip, DL.ap_dZ2, DL.ap_iEnm, DL.ap_a1, DL.ap_a2, DL.ap_sqT, DL.ap_sqR, DL.ap_dNext, DL.ap_dSeq, DL.ap_dBreak, DL.ap_dCont, DL.ap_dDrop, DL.ap_dRet, DL.ap_dRetN, DL.ap_dIfS, DL.ap_dAsg, DL.ap_dPar, DL.ap_a3, DL.ap_dPar3, DL.ap_dAug, DL.ap_dAugS, DL.ap_dFor, DL.ap_gSet, DL.ap_gTup, DL.ap_gNil, DL.ap_gCons, DL.ap_gSub, DL.tr_non, DL.tr_bl, DL.tr_int, DL.tr_str, DL.tr_tup, DL.tr_ref, DL.ad_int, DL.ad_tup, DL.ad_ref, DL.sb_int, DL.mu_int, DL.mu_tup, DL.mu_ref, DL.fd_int, DL.md_int, DL.pw_int, DL.ng_int, DL.i2_int, DL.ci_int, DL.is_bl, DL.is_nn, DL.is_in, DL.is_tn, DL.is_rn, DL.is_sn, DL.ix_tup, DL.ix_ref, DL.ixl_ref, DL.sl_tup, DL.sl_lw, DL.sl_ref, DL.st_ref, DL.ap_append, DL.ap_extend, DL.ap_popI, DL.ap_pop0, DL.ty_ref, DL.ln_tup, DL.ln_ref, DL.ab_int, DL.in_int, DL.in_bl, DL.mn_int, DL.mx_int, DL.sm_of, DL.al_ref, DL.an_ref, DL.li_of, DL.tu_of, DL.so_ref, DL.rd_ref, DL.go_int, DL.go_str, DL.pa_int, DL.ka_int, DL.ka_str, DL.ap_dGetI, DL.ap_dInD, DL.ap_dGet1, DL.ap_dGet2, DL.ap_dDisp1, DL.ap_dPutS, DL.ap_dStar, DL.ap_dOr, DL.ap_dSortD, DL.ap_dMinD, DL.ap_dRevL, DL.ap_dMin3, DL.ap_dNever, DL.getV_0, DL.getV_s, DL.set_0, DL.set_s, DL.startD_nil, DL.startD_cons, DL.rep_0, DL.rep_s, DL.wipe_nil, DL.wipe_cons, DL.isB_bl, DL.isN_int, DL.someD_some, DL.at0, DL.at1, DL.at2, DL.at3, DL.at4, DL.at5, DL.up1_same, DL.up_up]
    obtain ⟨k, rfl⟩ := Int.eq_ofNat_of_zero_le v0
    have hk : k < (y0 :: rem0).length := by omega
    have g1' : S5 l = some (.lst (y0 :: rem0)) := e5 _ _ nl.1 (e4 _ _ g1)
    have g2' : S5 f = some (.lst done) := e5 _ _ nf.1 (e4 _ _ g2)
    refine ⟨y0 :: rem0, k, (y0 :: rem0)[k], g1', by omega, by simp only [List.length_cons] at hlen hk; omega, ?_, List.getElem?_eq_getElem hk, ?_⟩
    · rw [seqIndex_of (by omega) (by omega)]; simp
    · refine lstAt_of (by rw [up1_ne (Ne.symm lf)]; exact g2') ⟨Nat.lt_of_lt_of_le (show done.length < 1000001 by simp only [List.length_cons] at hlen; omega) (by decide), ?_⟩
      refine ⟨((y0 :: rem0).eraseIdx k).length, by rw [List.length_eraseIdx, if_pos hk]; simp only [List.length_cons]; omega, (y0 :: rem0).eraseIdx k, done ++ [(y0 :: rem0)[k]], (by first | exact rfl | trivial), (by rw [up1_ne lf]; exact up1_same), (by first | exact rfl | exact up1_same), ?_, isDs_erase gd, (by first | exact rfl | trivial), (hb5.put1 nl).put1 nf, ?_⟩
      · rw [List.append_assoc]
        exact ((erase_perm (List.getElem?_eq_getElem hk)).append_left done).trans gp
      · exact (((ge.trans e4.but).trans e5).side n1).side nf0
end Cc
set_option Elab.async false
set_option linter.all false
set_option maxRecDepth 100000
set_option maxHeartbeats 4000000
namespace Cc
open PySem DL L2 Ca Cb
theorem len__law_alike : ∀ ds S P EP, sp__law_alike ds S P EP → ds.length = 2 := by rintro _ S P EP ⟨x, y, n, rfl, _⟩; rfl
theorem sa_kn {S : Sto} {n : Nat} {x y : D} (h : Sa S n x y) : Kn S x ∧ Kn S y := by
  cases h <;> first
    | exact ⟨trivial, trivial⟩
    | (rename_i a _ _; exact ⟨⟨_, ‹_›⟩, ⟨_, ‹_›⟩⟩)
theorem sa_ty {S : Sto} {n : Nat} {x y : D} (h : Sa S n x y) : isBl x = isBl y ∧ isSt x = isSt y ∧ (isT x || isL x) = (isT y || isL y) ∧ isT x = isT y := by
  cases h <;> exact ⟨rfl, rfl, rfl, rfl⟩
theorem pure__law_alike : ∀ ds S Q EP, sp__law_alike ds S Q EP → d__law_alike EP { nx := fun _ S' => Q .non S', rt := Q } (startD 6 ds) S := by
  rintro ds S Q EP ⟨x, y, n, rfl, hs, hn, h⟩
  unfold d__law_alike
  try simp only [DL.ap_dC, DL.ap_dVar, DL.ap_dNil, DL.ap_dCons, DL.ap_dTup, DL.ap_dLst, DL.ap_dOp, DL.ap_dB, DL.ap_dChain, DL.ap_dTru, DL.ap_dAndT, DL.ap_dOrT, DL.ap_dNotT, DL.ap_dAndV, DL.ap_dOrV, DL.ap_dNotV, DL.ap_dIf, DL.ap_dUn, DL.ap_dCall, DL.ap_dNoPart, DL.ap_dPart, DL.ap_dSl, DL.ap_dBM, DL.ap_dBM0, DL.ap_dFn, DL.ap_dLc, DL.ap_dYes, DL.ap_dRg1, DL.ap_dRg2, DL.ap_dLrg, DL.ap_dTrg, DL.ap_iAny, DL.ap_iRng1, DL.ap_iRng2, DL.ap_iRng3, DL.ap_rng1P, DL.ap_rng2P, DL.ap_rng3P, DL.ap_iZip, DL.ap_dLzip, DL.ap_dZ2, DL.ap_iEnm, DL.ap_a1, DL.ap_a2, DL.ap_sqT, DL.ap_sqR, DL.ap_dNext, DL.ap_dSeq, DL.ap_dBreak, DL.ap_dCont, DL.ap_dDrop, DL.ap_dRet, DL.ap_dRetN, DL.ap_dIfS, DL.ap_dAsg, DL.ap_dPar, DL.ap_a3, DL.ap_dPar3, DL.ap_dAug, DL.ap_dAugS, DL.ap_dFor, DL.ap_gSet, DL.ap_gTup, DL.ap_gNil, DL.ap_gCons, DL.ap_gSub, DL.tr_non, DL.tr_bl, DL.tr_int, DL.tr_str, DL.tr_tup, DL.tr_ref, DL.ad_int, DL.ad_tup, DL.ad_ref, DL.sb_int, DL.mu_int, DL.mu_tup, DL.mu_ref, DL.fd_int, DL.md_int, DL.pw_int, DL.ng_int, DL.i2_int, DL.ci_int, DL.is_bl, DL.is_nn, DL.is_in, DL.is_tn, DL.is_rn, DL.is_sn, DL.ix_tup, DL.ix_ref, DL.ixl_ref, DL.sl_tup, DL.sl_lw, DL.sl_ref, DL.st_ref, DL.ap_append, DL.ap_extend, DL.ap_popI, DL.ap_pop0, DL.ty_ref, DL.ln_tup, DL.ln_ref, DL.ab_int, DL.in_int, DL.in_bl, DL.mn_int, DL.mx_int, DL.sm_of, DL.al_ref, DL.an_ref, DL.li_of, DL.tu_of, DL.so_ref, DL.rd_ref, DL.go_int, DL.go_str, DL.pa_int, DL.ka_int, DL.ka_str, DL.ap_dGetI, DL.ap_dInD, DL.ap_dGet1, DL.ap_dGet2, DL.ap_dDisp1, DL.ap_dPutS, DL.ap_dStar, DL.ap_dOr, DL.ap_dSortD, DL.ap_dMinD, DL.ap_dRevL, DL.ap_dMin3, DL.ap_dNever, DL.getV_0, DL.getV_s, DL.set_0, DL.set_s, DL.startD_nil, DL.startD_cons, DL.rep_0, DL.rep_s, DL.wipe_nil, DL.wipe_cons, DL.isB_bl, DL.isN_int, DL.someD_some, DL.at0, DL.at1, DL.at2, DL.at3, DL.at4, DL.at5, DL.up1_same, DL.up_up]
  refine ⟨line (show 2 ≤ 1000000 by decide), line (show 1 ≤ 1000000 by decide), ?_⟩
  (intro p n1; generalize eS_ : up1 _ p _ = S1; have e1 := Ext.new_eq eS_ n1; have f1 := up_eq eS_; clear eS_)
  unfold d__law_alike_6
  try simp only [DL.ap_dC, DL.ap_dVar, DL.ap_dNil, DL.ap_dCons, DL.ap_dTup, DL.ap_dLst, DL.ap_dOp, DL.ap_dB, DL.ap_dChain, DL.ap_dTru, DL.ap_dAndT, DL.ap_dOrT, DL.ap_dNotT, DL.ap_dAndV, DL.ap_dOrV, DL.ap_dNotV, DL.ap_dIf, DL.ap_dUn, DL.ap_dCall, DL.ap_dNoPart, DL.ap_dPart, DL.ap_dSl, DL.ap_dBM, DL.ap_dBM0, DL.ap_dFn, DL.ap_dLc, DL.ap_dYes, DL.ap_dRg1, DL.ap_dRg2, DL.ap_dLrg, DL.ap_dTrg, DL.ap_iAny, DL.ap_iRng1, DL.ap_iRng2, DL.ap_iRng3, DL.ap_rng1P, DL.ap_rng2P, DL.ap_rng3P, DL.ap_iZip, DL.ap_dLzip, DL.ap_dZ2, DL.ap_iEnm, DL.ap_a1, DL.ap_a2, DL.ap_sqT, DL.ap_sqR, DL.ap_dNext, DL.ap_dSeq, DL.ap_dBreak, DL.ap_dCont, DL.ap_dDrop, DL.ap_dRet, DL.ap_dRetN, DL.ap_dIfS, DL.ap_dAsg, DL.ap_dPar, DL.ap_a3, DL.ap_dPar3, DL.ap_dAug, DL.ap_dAugS, DL.ap_dFor, DL.ap_gSet, DL.ap_gTup, DL.ap_gNil, DL.ap_gCons, DL.ap_gSub, DL.tr_non, DL.tr_bl, DL.tr_int, DL.tr_str, DL.tr_tup, DL.tr_ref, DL.ad_int, DL.ad_tup, DL.ad_ref, DL.sb_int, DL.mu_int, DL.mu_tup, DL.mu_ref, DL.fd_int, DL.md_int, DL.pw_int, DL.ng_int, DL.i2_int, DL.ci_int, DL.is_bl, DL.is_nn, DL.is_in, DL.is_tn, DL.is_rn, DL.is_sn, DL.ix_tup, DL.ix_ref, DL.ixl_ref, DL.sl_tup, DL.sl_lw, DL.sl_ref, DL.st_ref, DL.ap_append, DL.ap_extend, DL.ap_popI, DL.ap_pop0, DL.ty_ref, DL.ln_tup, DL.ln_ref, DL.ab_int, DL.in_int, DL.in_bl, DL.mn_int, DL.mx_int, DL.sm_of, DL.al_ref, DL.an_ref, DL.li_of, DL.tu_of, DL.so_ref, DL.rd_ref, DL.go_int, DL.go_str, DL.pa_int, DL.ka_int, DL.ka_str, DL.ap_dGetI, DL.ap_dInD, DL.ap_dGet1, DL.ap_dGet2, DL.ap_dDisp1, DL.ap_dPutS, DL.ap_dStar, DL.ap_dOr, DL.ap_dSortD, DL.ap_dMinD, DL.ap_dRevL, DL.ap_dMin3, DL.ap_dNever, DL.getV_0, DL.getV_s, DL.set_0, DL.set_s, DL.startD_nil, DL.startD_cons, DL.rep_0, DL.rep_s, DL.wipe_nil, DL.wipe_cons, DL.isB_bl, DL.isN_int, DL.someD_some, DL.at0, DL.at1, DL.at2, DL.at3, DL.at4, DL.at5, DL.up1_same, DL.up_up]
  refine ⟨fun m ρ S2 => ∃ (L : List D) (k : Nat) (xs ys : List D) (o4 o5 : Option D), ρ = [some x, some y, some (.ref p), some (.int (k : Nat)), o4, o5] ∧ S2 p = some (.lst L) ∧ L.drop k = zipD xs ys ∧ k + xs.length = L.length ∧ SaL S m xs ys ∧ k + m ≤ n ∧ Ext S S2,
    ⟨n, [.tup [x, y]], 0, [x], [y], none, none, rfl, f1, rfl, rfl, by have := SaL.cons hs .nil; rwa [Nat.add_zero] at this, by omega, e1⟩, ?_⟩
  rintro m ρ S2 ⟨L, k, xs, ys, o4, o5, rfl, g1, gd, gl, gs, gn, ge⟩
  try simp only [DL.ap_dC, DL.ap_dVar, DL.ap_dNil, DL.ap_dCons, DL.ap_dTup, DL.ap_dLst, DL.ap_dOp, DL.ap_dB, DL.ap_dChain, DL.ap_dTru, DL.ap_dAndT, DL.ap_dOrT, DL.ap_dNotT, DL.ap_dAndV, DL.ap_dOrV, DL.ap_dNotV, DL.ap_dIf, DL.ap_dUn, DL.ap_dCall, DL.ap_dNoPart, DL.ap_dPart, DL.ap_dSl, DL.ap_dBM, DL.ap_dBM0, DL.ap_dFn, DL.ap_dLc, DL.ap_dYes, DL.ap_dRg1, DL.ap_dRg2, DL.ap_dLrg, DL.ap_dTrg, DL.ap_iAny, DL.ap_iRng1, DL.ap_iRng2, DL.ap_iRng3, DL.ap_rng1P, DL.ap_rng2P, DL.ap_rng3P, DL.ap_iZip, DL.ap_dLzip, DL.ap_dZ2, DL.ap_iEnm, DL.ap_a1, DL.ap_a2, DL.ap_sqT, DL.ap_sqR, DL.ap_dNext, DL.ap_dSeq, DL.ap_dBreak, DL.ap_dCont, DL.ap_dDrop, DL.ap_dRet, DL.ap_dRetN, DL.ap_dIfS, DL.ap_dAsg, DL.ap_dPar, DL.ap_a3, DL.ap_dPar3, DL.ap_dAug, DL.ap_dAugS, DL.ap_dFor, DL.ap_gSet, DL.ap_gTup, DL.ap_gNil, DL.ap_gCons, DL.ap_gSub, DL.tr_non, DL.tr_bl, DL.tr_int, DL.tr_str, DL.tr_tup, DL.tr_ref, DL.ad_int, DL.ad_tup, DL.ad_ref, DL.sb_int, DL.mu_int, DL.mu_tup, DL.mu_ref, DL.fd_int, DL.md_int, DL.pw_int, DL.ng_int, DL.i2_int, DL.ci_int, DL.is_bl, DL.is_nn, DL.is_in, DL.is_tn, DL.is_rn, DL.is_sn, DL.ix_tup, DL.ix_ref, DL.ixl_ref, DL.sl_tup, DL.sl_lw, DL.sl_ref, DL.st_ref, DL.ap_append, DL.ap_extend, DL.ap_popI, DL.ap_pop0, DL.ty_ref, DL.ln_tup, DL.ln_ref, DL.ab_int, DL.in_int, DL.in_bl, DL.mn_int, DL.mx_int, DL.sm_of, DL.al_ref, DL.an_ref, DL.li_of, DL.tu_of, DL.so_ref, DL.rd_ref, DL.go_int, DL.go_str, DL.pa_int, DL.ka_int, DL.ka_str, DL.ap_dGetI, DL.ap_dInD, DL.ap_dGet1, DL.ap_dGet2, DL.ap_dDisp1, DL.ap_dPutS, DL.ap_dStar, DL.ap_dOr, DL.ap_dSortD, DL.ap_dMinD, DL.ap_dRevL, DL.ap_dMin3, DL.ap_dNever, DL.getV_0, DL.getV_s, DL.set_0, DL.set_s, DL.startD_nil, DL.startD_cons, DL.rep_0, DL.rep_s, DL.wipe_nil, DL.wipe_cons, DL.isB_bl, DL.isN_int, DL.someD_some, DL.at0, DL.at1, DL.at2, DL.at3, DL.at4, DL.at5, DL.up1_same, DL.up_up]
  refine lstAt_of g1 ?_
  cases gs with
  | nil =>
    simp only [List.length_nil, Nat.add_zero] at gl
    rw [if_neg (by simp; omega)]
    exact h S2 ge
  | @cons n1 m1 x1 y1 xs1 ys1 hx ht =>
    have hl2 := ht.len
    simp only [List.length_cons] at gl
    rw [if_pos (by simp; omega)]
    refine lstAt_of g1 ?_
    have hk : L[k]? = some (.tup [x1, y1]) := by
      have e := congrArg (fun l => l[0]?) gd
      simp only [List.getElem?_drop, Nat.add_zero] at e
      rw [e]; rfl
    have hdrop : L.drop (k + 1) = zipD xs1 ys1 := by
      rw [← List.drop_drop, gd]; rfl
    rw [atn hk]
    try simp only [DL.ap_dC, DL.ap_dVar, DL.ap_dNil, DL.ap_dCons, DL.ap_dTup, DL.ap_dLst, DL.ap_dOp, DL.ap_dB, DL.ap_dChain, DL.ap_dTru, DL.ap_dAndT, DL.ap_dOrT, DL.ap_dNotT, DL.ap_dAndV, DL.ap_dOrV, DL.ap_dNotV, DL.ap_dIf, DL.ap_dUn, DL.ap_dCall, DL.ap_dNoPart, DL.ap_dPart, DL.ap_dSl, DL.ap_dBM, DL.ap_dBM0, DL.ap_dFn, DL.ap_dLc, DL.ap_dYes, DL.ap_dRg1, DL.ap_dRg2, DL.ap_dLrg, DL.ap_dTrg, DL.ap_iAny, DL.ap_iRng1, DL.ap_iRng2, DL.ap_iRng3, DL.ap_rng1P, DL.ap_rng2P, DL.ap_rng3P, DL.ap_iZip, DL.ap_dLzip, DL.ap_dZ2, DL.ap_iEnm, DL.ap_a1, DL.ap_a2, DL.ap_sqT, DL.ap_sqR, DL.ap_dNext, DL.ap_dSeq, DL.ap_dBreak, DL.ap_dCont, DL.ap_dDrop, DL.ap_dRet, DL.ap_dRetN, DL.ap_dIfS, DL.ap_dAsg, DL.ap_dPar, DL.ap_a3, DL.ap_dPar3, DL.ap_dAug, DL.ap_dAugS, DL.ap_dFor, DL.ap_gSet, DL.ap_gTup, DL.ap_gNil, DL.ap_gCons, DL.ap_gSub, DL.tr_non, DL.tr_bl, DL.tr_int, DL.tr_str, DL.tr_tup, DL.tr_ref, DL.ad_int, DL.ad_tup, DL.ad_ref, DL.sb_int, DL.mu_int, DL.mu_tup, DL.mu_ref, DL.fd_int, DL.md_int, DL.pw_int, DL.ng_int, DL.i2_int, DL.ci_int, DL.is_bl, DL.is_nn, DL.is_in, DL.is_tn, DL.is_rn, DL.is_sn, DL.ix_tup, DL.ix_ref, DL.ixl_ref, DL.sl_tup, DL.sl_lw, DL.sl_ref, DL.st_ref, DL.ap_append, DL.ap_extend, DL.ap_popI, DL.ap_pop0, DL.ty_ref, DL.ln_tup, DL.ln_ref, DL.ab_int, DL.in_int, DL.in_bl, DL.mn_int, DL.mx_int, DL.sm_of, DL.al_ref, DL.an_ref, DL.li_of, DL.tu_of, DL.so_ref, DL.rd_ref, DL.go_int, DL.go_str, DL.pa_int, DL.ka_int, DL.ka_str, DL.ap_dGetI, DL.ap_dInD, DL.ap_dGet1, DL.ap_dGet2, DL.ap_dDisp1, DL.ap_dPutS, DL.ap_dStar, DL.ap_dOr, DL.ap_dSortD, DL.ap_dMinD, DL.ap_dRevL, DL.ap_dMin3, DL.ap_dNever, DL.getV_0, DL.getV_s, DL.set_0, DL.set_s, DL.startD_nil, DL.startD_cons, DL.rep_0, DL.rep_s, DL.wipe_nil, DL.wipe_cons, DL.isB_bl, DL.isN_int, DL.someD_some, DL.at0, DL.at1, DL.at2, DL.at3, DL.at4, DL.at5, DL.up1_same, DL.up_up]
    refine ⟨rfl, ?_⟩
    unfold d__law_alike_5
    try simp only [DL.ap_dC, DL.ap_dVar, DL.ap_dNil, DL.ap_dCons, DL.ap_dTup, DL.ap_dLst, DL.ap_dOp, DL.ap_dB, DL.ap_dChain, DL.ap_dTru, DL.ap_dAndT, DL.ap_dOrT, DL.ap_dNotT, DL.ap_dAndV, DL.ap_dOrV, DL.ap_dNotV, DL.ap_dIf, DL.ap_dUn, DL.ap_dCall, DL.ap_dNoPart, DL.ap_dPart, DL.ap_dSl, DL.ap_dBM, DL.ap_dBM0, DL.ap_dFn, DL.ap_dLc, DL.ap_dYes, DL.ap_dRg1, DL.ap_dRg2, DL.ap_dLrg, DL.ap_dTrg, DL.ap_iAny, DL.ap_iRng1, DL.ap_iRng2, DL.ap_iRng3, DL.ap_rng1P, DL.ap_rng2P, DL.ap_rng3P, DL.ap_iZip, DL.ap_dLzip, DL.ap_dZ2, DL.ap_iEnm, DL.ap_a1, DL.ap_a2, DL.ap_sqT, DL.ap_sqR, DL.ap_dNext, DL.ap_dSeq, DL.ap_dBreak, DL.ap_dCont, DL.ap_dDrop, DL.ap_dRet, DL.ap_dRetN, DL.ap_dIfS, DL.ap_dAsg, DL.ap_dPar, DL.ap_a3, DL.ap_dPar3, DL.ap_dAug, DL.ap_dAugS, DL.ap_dFor, DL.ap_gSet, DL.ap_gTup, DL.ap_gNil, DL.ap_gCons, DL.ap_gSub, DL.tr_non, DL.tr_bl, DL.tr_int, DL.tr_str, DL.tr_tup, DL.tr_ref, DL.ad_int, DL.ad_tup, DL.ad_ref, DL.sb_int, DL.mu_int, DL.mu_tup, DL.mu_ref, DL.fd_int, DL.md_int, DL.pw_int, DL.ng_int, DL.i2_int, DL.ci_int, DL.is_bl, DL.is_nn, DL.is_in, DL.is_tn, DL.is_rn, DL.is_sn, DL.ix_tup, DL.ix_ref, DL.ixl_ref, DL.sl_tup, DL.sl_lw, DL.sl_ref, DL.st_ref, DL.ap_append, DL.ap_extend, DL.ap_popI, DL.ap_pop0, DL.ty_ref, DL.ln_tup, DL.ln_ref, DL.ab_int, DL.in_int, DL.in_bl, DL.mn_int, DL.mx_int, DL.sm_of, DL.al_ref, DL.an_ref, DL.li_of, DL.tu_of, DL.so_ref, DL.rd_ref, DL.go_int, DL.go_str, DL.pa_int, DL.ka_int, DL.ka_str, DL.ap_dGetI, DL.ap_dInD, DL.ap_dGet1, DL.ap_dGet2, DL.ap_dDisp1, DL.ap_dPutS, DL.ap_dStar, DL.ap_dOr, DL.ap_dSortD, DL.ap_dMinD, DL.ap_dRevL, DL.ap_dMin3, DL.ap_dNever, DL.getV_0, DL.getV_s, DL.set_0, DL.set_s, DL.startD_nil, DL.startD_cons, DL.rep_0, DL.rep_s, DL.wipe_nil, DL.wipe_cons, DL.isB_bl, DL.isN_int, DL.someD_some, DL.at0, DL.at1, DL.at2, DL.at3, DL.at4, DL.at5, DL.up1_same, DL.up_up]
    unfold d__law_alike_4
    obtain ⟨kx, ky⟩ := sa_kn (hx.ext ge)
    obtain ⟨t1, t2, t3, t4⟩ := sa_ty hx
    try simp only [isi_bool kx, isi_bool ky, DL.ap_dC, DL.ap_dVar, DL.ap_dNil, DL.ap_dCons, DL.ap_dTup, DL.ap_dLst, DL.ap_dOp, DL.ap_dB, DL.ap_dChain, DL.ap_dTru, DL.ap_dAndT, DL.ap_dOrT, DL.ap_dNotT, DL.ap_dAndV, DL.ap_dOrV, DL.ap_dNotV, DL.ap_dIf, DL.ap_dUn, DL.ap_dCall, DL.ap_dNoPart, DL.ap_dPart, DL.ap_dSl, DL.ap_dBM, DL.ap_dBM0, DL.ap_dFn, DL.ap_dLc, DL.ap_dYes, DL.ap_dRg1, DL.ap_dRg2, DL.ap_dLrg, DL.ap_dTrg, DL.ap_iAny, DL.ap_iRng1, DL.ap_iRng2, DL.ap_iRng3, DL.ap_rng1P, DL.ap_rng2P, DL.ap_rng3P, DL.ap_iZip, DL.ap_dLzip, DL.ap_dZ2, DL.ap_iEnm, DL.ap_a1, DL.ap_a2, DL.ap_sqT, DL.ap_sqR, DL.ap_dNext, DL.ap_dSeq, DL.ap_dBreak, DL.ap_dCont, DL.ap_dDrop, DL.ap_dRet, DL.ap_dRetN, DL.ap_dIfS, DL.ap_dAsg, DL.ap_dPar, DL.ap_a3, DL.ap_dPar3, DL.ap_dAug, DL.ap_dAugS, DL.ap_dFor, DL.ap_gSet, DL.ap_gTup, DL.ap_gNil, DL.ap_gCons, DL.ap_gSub, DL.tr_non, DL.tr_bl, DL.tr_int, DL.tr_str, DL.tr_tup, DL.tr_ref, DL.ad_int, DL.ad_tup, DL.ad_ref, DL.sb_int, DL.mu_int, DL.mu_tup, DL.mu_ref, DL.fd_int, DL.md_int, DL.pw_int, DL.ng_int, DL.i2_int, DL.ci_int, DL.is_bl, DL.is_nn, DL.is_in, DL.is_tn, DL.is_rn, DL.is_sn, DL.ix_tup, DL.ix_ref, DL.ixl_ref, DL.sl_tup, DL.sl_lw, DL.sl_ref, DL.st_ref, DL.ap_append, DL.ap_extend, DL.ap_popI, DL.ap_pop0, DL.ty_ref, DL.ln_tup, DL.ln_ref, DL.ab_int, DL.in_int, DL.in_bl, DL.mn_int, DL.mx_int, DL.sm_of, DL.al_ref, DL.an_ref, DL.li_of, DL.tu_of, DL.so_ref, DL.rd_ref, DL.go_int, DL.go_str, DL.pa_int, DL.ka_int, DL.ka_str, DL.ap_dGetI, DL.ap_dInD, DL.ap_dGet1, DL.ap_dGet2, DL.ap_dDisp1, DL.ap_dPutS, DL.ap_dStar, DL.ap_dOr, DL.ap_dSortD, DL.ap_dMinD, DL.ap_dRevL, DL.ap_dMin3, DL.ap_dNever, DL.getV_0, DL.getV_s, DL.set_0, DL.set_s, DL.startD_nil, DL.startD_cons, DL.rep_0, DL.rep_s, DL.wipe_nil, DL.wipe_cons, DL.isB_bl, DL.isN_int, DL.someD_some, DL.at0, DL.at1, DL.at2, DL.at3, DL.at4, DL.at5, DL.up1_same, DL.up_up]
    refine ne_bls ?_
    rw [decide_eq_true t1]
    try simp only [isi_str kx, isi_str ky, DL.ap_dC, DL.ap_dVar, DL.ap_dNil, DL.ap_dCons, DL.ap_dTup, DL.ap_dLst, DL.ap_dOp, DL.ap_dB, DL.ap_dChain, DL.ap_dTru, DL.ap_dAndT, DL.ap_dOrT, DL.ap_dNotT, DL.ap_dAndV, DL.ap_dOrV, DL.ap_dNotV, DL.ap_dIf, DL.ap_dUn, DL.ap_dCall, DL.ap_dNoPart, DL.ap_dPart, DL.ap_dSl, DL.ap_dBM, DL.ap_dBM0, DL.ap_dFn, DL.ap_dLc, DL.ap_dYes, DL.ap_dRg1, DL.ap_dRg2, DL.ap_dLrg, DL.ap_dTrg, DL.ap_iAny, DL.ap_iRng1, DL.ap_iRng2, DL.ap_iRng3, DL.ap_rng1P, DL.ap_rng2P, DL.ap_rng3P, DL.ap_iZip, DL.ap_dLzip, DL.ap_dZ2, DL.ap_iEnm, DL.ap_a1, DL.ap_a2, DL.ap_sqT, DL.ap_sqR, DL.ap_dNext, DL.ap_dSeq, DL.ap_dBreak, DL.ap_dCont, DL.ap_dDrop, DL.ap_dRet, DL.ap_dRetN, DL.ap_dIfS, DL.ap_dAsg, DL.ap_dPar, DL.ap_a3, DL.ap_dPar3, DL.ap_dAug, DL.ap_dAugS, DL.ap_dFor, DL.ap_gSet, DL.ap_gTup, DL.ap_gNil, DL.ap_gCons, DL.ap_gSub, DL.tr_non, DL.tr_bl, DL.tr_int, DL.tr_str, DL.tr_tup, DL.tr_ref, DL.ad_int, DL.ad_tup, DL.ad_ref, DL.sb_int, DL.mu_int, DL.mu_tup, DL.mu_ref, DL.fd_int, DL.md_int, DL.pw_int, DL.ng_int, DL.i2_int, DL.ci_int, DL.is_bl, DL.is_nn, DL.is_in, DL.is_tn, DL.is_rn, DL.is_sn, DL.ix_tup, DL.ix_ref, DL.ixl_ref, DL.sl_tup, DL.sl_lw, DL.sl_ref, DL.st_ref, DL.ap_append, DL.ap_extend, DL.ap_popI, DL.ap_pop0, DL.ty_ref, DL.ln_tup, DL.ln_ref, DL.ab_int, DL.in_int, DL.in_bl, DL.mn_int, DL.mx_int, DL.sm_of, DL.al_ref, DL.an_ref, DL.li_of, DL.tu_of, DL.so_ref, DL.rd_ref, DL.go_int, DL.go_str, DL.pa_int, DL.ka_int, DL.ka_str, DL.ap_dGetI, DL.ap_dInD, DL.ap_dGet1, DL.ap_dGet2, DL.ap_dDisp1, DL.ap_dPutS, DL.ap_dStar, DL.ap_dOr, DL.ap_dSortD, DL.ap_dMinD, DL.ap_dRevL, DL.ap_dMin3, DL.ap_dNever, DL.getV_0, DL.getV_s, DL.set_0, DL.set_s, DL.startD_nil, DL.startD_cons, DL.rep_0, DL.rep_s, DL.wipe_nil, DL.wipe_cons, DL.isB_bl, DL.isN_int, DL.someD_some, DL.at0, DL.at1, DL.at2, DL.at3, DL.at4, DL.at5, DL.up1_same, DL.up_up]
    simp only [Bool.not_true, Bool.false_eq_true, if_false]
    refine ne_bls ?_
    rw [decide_eq_true t2]
    try simp only [DL.ap_dC, DL.ap_dVar, DL.ap_dNil, DL.ap_dCons, DL.ap_dTup, DL.ap_dLst, DL.ap_dOp, DL.ap_dB, DL.ap_dChain, DL.ap_dTru, DL.ap_dAndT, DL.ap_dOrT, DL.ap_dNotT, DL.ap_dAndV, DL.ap_dOrV, DL.ap_dNotV, DL.ap_dIf, DL.ap_dUn, DL.ap_dCall, DL.ap_dNoPart, DL.ap_dPart, DL.ap_dSl, DL.ap_dBM, DL.ap_dBM0, DL.ap_dFn, DL.ap_dLc, DL.ap_dYes, DL.ap_dRg1, DL.ap_dRg2, DL.ap_dLrg, DL.ap_dTrg, DL.ap_iAny, DL.ap_iRng1, DL.ap_iRng2, DL.ap_iRng3, DL.ap_rng1P, DL.ap_rng2P, DL.ap_rng3P, DL.ap_iZip, DL.ap_dLzip, DL.ap_dZ2, DL.ap_iEnm, DL.ap_a1, DL.ap_a2, DL.ap_sqT, DL.ap_sqR, DL.ap_dNext, DL.ap_dSeq, DL.ap_dBreak, DL.ap_dCont, DL.ap_dDrop, DL.ap_dRet, DL.ap_dRetN, DL.ap_dIfS, DL.ap_dAsg, DL.ap_dPar, DL.ap_a3, DL.ap_dPar3, DL.ap_dAug, DL.ap_dAugS, DL.ap_dFor, DL.ap_gSet, DL.ap_gTup, DL.ap_gNil, DL.ap_gCons, DL.ap_gSub, DL.tr_non, DL.tr_bl, DL.tr_int, DL.tr_str, DL.tr_tup, DL.tr_ref, DL.ad_int, DL.ad_tup, DL.ad_ref, DL.sb_int, DL.mu_int, DL.mu_tup, DL.mu_ref, DL.fd_int, DL.md_int, DL.pw_int, DL.ng_int, DL.i2_int, DL.ci_int, DL.is_bl, DL.is_nn, DL.is_in, DL.is_tn, DL.is_rn, DL.is_sn, DL.ix_tup, DL.ix_ref, DL.ixl_ref, DL.sl_tup, DL.sl_lw, DL.sl_ref, DL.st_ref, DL.ap_append, DL.ap_extend, DL.ap_popI, DL.ap_pop0, DL.ty_ref, DL.ln_tup, DL.ln_ref, DL.ab_int, DL.in_int, DL.in_bl, DL.mn_int, DL.mx_int, DL.sm_of, DL.al_ref, DL.an_ref, DL.li_of, DL.tu_of, DL.so_ref, DL.rd_ref, DL.go_int, DL.go_str, DL.pa_int, DL.ka_int, DL.ka_str, DL.ap_dGetI, DL.ap_dInD, DL.ap_dGet1, DL.ap_dGet2, DL.ap_dDisp1, DL.ap_dPutS, DL.ap_dStar, DL.ap_dOr, DL.ap_dSortD, DL.ap_dMinD, DL.ap_dRevL, DL.ap_dMin3, DL.ap_dNever, DL.getV_0, DL.getV_s, DL.set_0, DL.set_s, DL.startD_nil, DL.startD_cons, DL.rep_0, DL.rep_s, DL.wipe_nil, DL.wipe_cons, DL.isB_bl, DL.isN_int, DL.someD_some, DL.at0, DL.at1, DL.at2, DL.at3, DL.at4, DL.at5, DL.up1_same, DL.up_up]
    simp only [Bool.not_true, Bool.false_eq_true, if_false]
    unfold d__law_alike_3
    try simp only [DL.ap_dC, DL.ap_dVar, DL.ap_dNil, DL.ap_dCons, DL.ap_dTup, DL.ap_dLst, DL.ap_dOp, DL.ap_dB, DL.ap_dChain, DL.ap_dTru, DL.ap_dAndT, DL.ap_dOrT, DL.ap_dNotT, DL.ap_dAndV, DL.ap_dOrV, DL.ap_dNotV, DL.ap_dIf, DL.ap_dUn, DL.ap_dCall, DL.ap_dNoPart, DL.ap_dPart, DL.ap_dSl, DL.ap_dBM, DL.ap_dBM0, DL.ap_dFn, DL.ap_dLc, DL.ap_dYes, DL.ap_dRg1, DL.ap_dRg2, DL.ap_dLrg, DL.ap_dTrg, DL.ap_iAny, DL.ap_iRng1, DL.ap_iRng2, DL.ap_iRng3, DL.ap_rng1P, DL.ap_rng2P, DL.ap_rng3P, DL.ap_iZip, DL.ap_dLzip, DL.ap_dZ2, DL.ap_iEnm, DL.ap_a1, DL.ap_a2, DL.ap_sqT, DL.ap_sqR, DL.ap_dNext, DL.ap_dSeq, DL.ap_dBreak, DL.ap_dCont, DL.ap_dDrop, DL.ap_dRet, DL.ap_dRetN, DL.ap_dIfS, DL.ap_dAsg, DL.ap_dPar, DL.ap_a3, DL.ap_dPar3, DL.ap_dAug, DL.ap_dAugS, DL.ap_dFor, DL.ap_gSet, DL.ap_gTup, DL.ap_gNil, DL.ap_gCons, DL.ap_gSub, DL.tr_non, DL.tr_bl, DL.tr_int, DL.tr_str, DL.tr_tup, DL.tr_ref, DL.ad_int, DL.ad_tup, DL.ad_ref, DL.sb_int, DL.mu_int, DL.mu_tup, DL.mu_ref, DL.fd_int, DL.md_int, DL.pw_int, DL.ng_int, DL.i2_int, DL.ci_int, DL.is_bl, DL.is_nn, DL.is_in, DL.is_tn, DL.is_rn, DL.is_sn, DL.ix_tup, DL.ix_ref, DL.ixl_ref, DL.sl_tup, DL.sl_lw, DL.sl_ref, DL.st_ref, DL.ap_append, DL.ap_extend, DL.ap_popI, DL.ap_pop0, DL.ty_ref, DL.ln_tup, DL.ln_ref, DL.ab_int, DL.in_int, DL.in_bl, DL.mn_int, DL.mx_int, DL.sm_of, DL.al_ref, DL.an_ref, DL.li_of, DL.tu_of, DL.so_ref, DL.rd_ref, DL.go_int, DL.go_str, DL.pa_int, DL.ka_int, DL.ka_str, DL.ap_dGetI, DL.ap_dInD, DL.ap_dGet1, DL.ap_dGet2, DL.ap_dDisp1, DL.ap_dPutS, DL.ap_dStar, DL.ap_dOr, DL.ap_dSortD, DL.ap_dMinD, DL.ap_dRevL, DL.ap_dMin3, DL.ap_dNever, DL.getV_0, DL.getV_s, DL.set_0, DL.set_s, DL.startD_nil, DL.startD_cons, DL.rep_0, DL.rep_s, DL.wipe_nil, DL.wipe_cons, DL.isB_bl, DL.isN_int, DL.someD_some, DL.at0, DL.at1, DL.at2, DL.at3, DL.at4, DL.at5, DL.up1_same, DL.up_up]
    refine ⟨line (show 2 ≤ 1000000 by decide), ?_⟩
    rw [isi_tl kx]
    refine ⟨line (show 2 ≤ 1000000 by decide), ?_⟩
    rw [isi_tl ky]
    refine ne_bls ?_
    rw [decide_eq_true t3]
    try simp only [DL.ap_dC, DL.ap_dVar, DL.ap_dNil, DL.ap_dCons, DL.ap_dTup, DL.ap_dLst, DL.ap_dOp, DL.ap_dB, DL.ap_dChain, DL.ap_dTru, DL.ap_dAndT, DL.ap_dOrT, DL.ap_dNotT, DL.ap_dAndV, DL.ap_dOrV, DL.ap_dNotV, DL.ap_dIf, DL.ap_dUn, DL.ap_dCall, DL.ap_dNoPart, DL.ap_dPart, DL.ap_dSl, DL.ap_dBM, DL.ap_dBM0, DL.ap_dFn, DL.ap_dLc, DL.ap_dYes, DL.ap_dRg1, DL.ap_dRg2, DL.ap_dLrg, DL.ap_dTrg, DL.ap_iAny, DL.ap_iRng1, DL.ap_iRng2, DL.ap_iRng3, DL.ap_rng1P, DL.ap_rng2P, DL.ap_rng3P, DL.ap_iZip, DL.ap_dLzip, DL.ap_dZ2, DL.ap_iEnm, DL.ap_a1, DL.ap_a2, DL.ap_sqT, DL.ap_sqR, DL.ap_dNext, DL.ap_dSeq, DL.ap_dBreak, DL.ap_dCont, DL.ap_dDrop, DL.ap_dRet, DL.ap_dRetN, DL.ap_dIfS, DL.ap_dAsg, DL.ap_dPar, DL.ap_a3, DL.ap_dPar3, DL.ap_dAug, DL.ap_dAugS, DL.ap_dFor, DL.ap_gSet, DL.ap_gTup, DL.ap_gNil, DL.ap_gCons, DL.ap_gSub, DL.tr_non, DL.tr_bl, DL.tr_int, DL.tr_str, DL.tr_tup, DL.tr_ref, DL.ad_int, DL.ad_tup, DL.ad_ref, DL.sb_int, DL.mu_int, DL.mu_tup, DL.mu_ref, DL.fd_int, DL.md_int, DL.pw_int, DL.ng_int, DL.i2_int, DL.ci_int, DL.is_bl, DL.is_nn, DL.is_in, DL.is_tn, DL.is_rn, DL.is_sn, DL.ix_tup, DL.ix_ref, DL.ixl_ref, DL.sl_tup, DL.sl_lw, DL.sl_ref, DL.st_ref, DL.ap_append, DL.ap_extend, DL.ap_popI, DL.ap_pop0, DL.ty_ref, DL.ln_tup, DL.ln_ref, DL.ab_int, DL.in_int, DL.in_bl, DL.mn_int, DL.mx_int, DL.sm_of, DL.al_ref, DL.an_ref, DL.li_of, DL.tu_of, DL.so_ref, DL.rd_ref, DL.go_int, DL.go_str, DL.pa_int, DL.ka_int, DL.ka_str, DL.ap_dGetI, DL.ap_dInD, DL.ap_dGet1, DL.ap_dGet2, DL.ap_dDisp1, DL.ap_dPutS, DL.ap_dStar, DL.ap_dOr, DL.ap_dSortD, DL.ap_dMinD, DL.ap_dRevL, DL.ap_dMin3, DL.ap_dNever, DL.getV_0, DL.getV_s, DL.set_0, DL.set_s, DL.startD_nil, DL.startD_cons, DL.rep_0, DL.rep_s, DL.wipe_nil, DL.wipe_cons, DL.isB_bl, DL.isN_int, DL.someD_some, DL.at0, DL.at1, DL.at2, DL.at3, DL.at4, DL.at5, DL.up1_same, DL.up_up]
    simp only [Bool.not_true, Bool.false_eq_true, if_false]
    unfold d__law_alike_2
    try simp only [DL.ap_dC, DL.ap_dVar, DL.ap_dNil, DL.ap_dCons, DL.ap_dTup, DL.ap_dLst, DL.ap_dOp, DL.ap_dB, DL.ap_dChain, DL.ap_dTru, DL.ap_dAndT, DL.ap_dOrT, DL.ap_dNotT, DL.ap_dAndV, DL.ap_dOrV, DL.ap_dNotV, DL.ap_dIf, DL.ap_dUn, DL.ap_dCall, DL.ap_dNoPart, DL.ap_dPart, DL.ap_dSl, DL.ap_dBM, DL.ap_dBM0, DL.ap_dFn, DL.ap_dLc, DL.ap_dYes, DL.ap_dRg1, DL.ap_dRg2, DL.ap_dLrg, DL.ap_dTrg, DL.ap_iAny, DL.ap_iRng1, DL.ap_iRng2, DL.ap_iRng3, DL.ap_rng1P, DL.ap_rng2P, DL.ap_rng3P, DL.ap_iZip, DL.ap_dLzip, DL.ap_dZ2, DL.ap_iEnm, DL.ap_a1, DL.ap_a2, DL.ap_sqT, DL.ap_sqR, DL.ap_dNext, DL.ap_dSeq, DL.ap_dBreak, DL.ap_dCont, DL.ap_dDrop, DL.ap_dRet, DL.ap_dRetN, DL.ap_dIfS, DL.ap_dAsg, DL.ap_dPar, DL.ap_a3, DL.ap_dPar3, DL.ap_dAug, DL.ap_dAugS, DL.ap_dFor, DL.ap_gSet, DL.ap_gTup, DL.ap_gNil, DL.ap_gCons, DL.ap_gSub, DL.tr_non, DL.tr_bl, DL.tr_int, DL.tr_str, DL.tr_tup, DL.tr_ref, DL.ad_int, DL.ad_tup, DL.ad_ref, DL.sb_int, DL.mu_int, DL.mu_tup, DL.mu_ref, DL.fd_int, DL.md_int, DL.pw_int, DL.ng_int, DL.i2_int, DL.ci_int, DL.is_bl, DL.is_nn, DL.is_in, DL.is_tn, DL.is_rn, DL.is_sn, DL.ix_tup, DL.ix_ref, DL.ixl_ref, DL.sl_tup, DL.sl_lw, DL.sl_ref, DL.st_ref, DL.ap_append, DL.ap_extend, DL.ap_popI, DL.ap_pop0, DL.ty_ref, DL.ln_tup, DL.ln_ref, DL.ab_int, DL.in_int, DL.in_bl, DL.mn_int, DL.mx_int, DL.sm_of, DL.al_ref, DL.an_ref, DL.li_of, DL.tu_of, DL.so_ref, DL.rd_ref, DL.go_int, DL.go_str, DL.pa_int, DL.ka_int, DL.ka_str, DL.ap_dGetI, DL.ap_dInD, DL.ap_dGet1, DL.ap_dGet2, DL.ap_dDisp1, DL.ap_dPutS, DL.ap_dStar, DL.ap_dOr, DL.ap_dSortD, DL.ap_dMinD, DL.ap_dRevL, DL.ap_dMin3, DL.ap_dNever, DL.getV_0, DL.getV_s, DL.set_0, DL.set_s, DL.startD_nil, DL.startD_cons, DL.rep_0, DL.rep_s, DL.wipe_nil, DL.wipe_cons, DL.isB_bl, DL.isN_int, DL.someD_some, DL.at0, DL.at1, DL.at2, DL.at3, DL.at4, DL.at5, DL.up1_same, DL.up_up]
    refine ⟨line (show 2 ≤ 1000000 by decide), ?_⟩
    rw [isi_tl kx]
    try simp only [DL.ap_dC, DL.ap_dVar, DL.ap_dNil, DL.ap_dCons, DL.ap_dTup, DL.ap_dLst, DL.ap_dOp, DL.ap_dB, DL.ap_dChain, DL.ap_dTru, DL.ap_dAndT, DL.ap_dOrT, DL.ap_dNotT, DL.ap_dAndV, DL.ap_dOrV, DL.ap_dNotV, DL.ap_dIf, DL.ap_dUn, DL.ap_dCall, DL.ap_dNoPart, DL.ap_dPart, DL.ap_dSl, DL.ap_dBM, DL.ap_dBM0, DL.ap_dFn, DL.ap_dLc, DL.ap_dYes, DL.ap_dRg1, DL.ap_dRg2, DL.ap_dLrg, DL.ap_dTrg, DL.ap_iAny, DL.ap_iRng1, DL.ap_iRng2, DL.ap_iRng3, DL.ap_rng1P, DL.ap_rng2P, DL.ap_rng3P, DL.ap_iZip, DL.ap_dLzip, DL.ap_dZ2, DL.ap_iEnm, DL.ap_a1, DL.ap_a2, DL.ap_sqT, DL.ap_sqR, DL.ap_dNext, DL.ap_dSeq, DL.ap_dBreak, DL.ap_dCont, DL.ap_dDrop, DL.ap_dRet, DL.ap_dRetN, DL.ap_dIfS, DL.ap_dAsg, DL.ap_dPar, DL.ap_a3, DL.ap_dPar3, DL.ap_dAug, DL.ap_dAugS, DL.ap_dFor, DL.ap_gSet, DL.ap_gTup, DL.ap_gNil, DL.ap_gCons, DL.ap_gSub, DL.tr_non, DL.tr_bl, DL.tr_int, DL.tr_str, DL.tr_tup, DL.tr_ref, DL.ad_int, DL.ad_tup, DL.ad_ref, DL.sb_int, DL.mu_int, DL.mu_tup, DL.mu_ref, DL.fd_int, DL.md_int, DL.pw_int, DL.ng_int, DL.i2_int, DL.ci_int, DL.is_bl, DL.is_nn, DL.is_in, DL.is_tn, DL.is_rn, DL.is_sn, DL.ix_tup, DL.ix_ref, DL.ixl_ref, DL.sl_tup, DL.sl_lw, DL.sl_ref, DL.st_ref, DL.ap_append, DL.ap_extend, DL.ap_popI, DL.ap_pop0, DL.ty_ref, DL.ln_tup, DL.ln_ref, DL.ab_int, DL.in_int, DL.in_bl, DL.mn_int, DL.mx_int, DL.sm_of, DL.al_ref, DL.an_ref, DL.li_of, DL.tu_of, DL.so_ref, DL.rd_ref, DL.go_int, DL.go_str, DL.pa_int, DL.ka_int, DL.ka_str, DL.ap_dGetI, DL.ap_dInD, DL.ap_dGet1, DL.ap_dGet2, DL.ap_dDisp1, DL.ap_dPutS, DL.ap_dStar, DL.ap_dOr, DL.ap_dSortD, DL.ap_dMinD, DL.ap_dRevL, DL.ap_dMin3, DL.ap_dNever, DL.getV_0, DL.getV_s, DL.set_0, DL.set_s, DL.startD_nil, DL.startD_cons, DL.rep_0, DL.rep_s, DL.wipe_nil, DL.wipe_cons, DL.isB_bl, DL.isN_int, DL.someD_some, DL.at0, DL.at1, DL.at2, DL.at3, DL.at4, DL.at5, DL.up1_same, DL.up_up]
    have c1 : ((k : Nat) : Int) + 1 = ((k + 1 : Nat) : Int) := by omega
    rw [c1]
    have pos := hx.pos
    -- the end of a turn at a leaf
    have leaf : ∃ m', m' < n1 + m1 ∧ ∃ (L' : List D) (k' : Nat) (xs ys : List D) (o4 o5 : Option D), [some x, some y, some (D.ref p), some (D.int ((k + 1 : Nat) : Int)), some x1, some y1] = [some x, some y, some (.ref p), some (.int (k' : Nat)), o4, o5] ∧ S2 p = some (.lst L') ∧ L'.drop k' = zipD xs ys ∧ k' + xs.length = L'.length ∧ SaL S m' xs ys ∧ k' + m' ≤ n ∧ Ext S S2 :=
      ⟨m1, by omega, L, k + 1, xs1, ys1, _, _, rfl, g1, hdrop, by omega, ht, by omega, ge⟩
    -- .. at a tuple, a list
    have node : ∀ (us vs : List D) (n0 : Nat), SaL S n0 us vs → n0 + 1 = n1 → (∀ (Q' : Sto → Prop), (∀ S3, S3 p = some (.lst (L ++ zipD us vs)) → Ext S S3 → Q' S3) →
        d__law_alike_1 EP { nx := fun ρ' S' => Q' S', rt := Q } [some x, some y, some (D.ref p), some (D.int ((k + 1 : Nat) : Int)), some x1, some y1] S2) → True := fun _ _ _ _ _ _ => trivial
    cases hx with
    | non =>
      simp only [isT, isL, Bool.or_self, Bool.false_eq_true, if_false]
      refine ne_DD rfl rfl ?_
      try simp only [DL.ap_dC, DL.ap_dVar, DL.ap_dNil, DL.ap_dCons, DL.ap_dTup, DL.ap_dLst, DL.ap_dOp, DL.ap_dB, DL.ap_dChain, DL.ap_dTru, DL.ap_dAndT, DL.ap_dOrT, DL.ap_dNotT, DL.ap_dAndV, DL.ap_dOrV, DL.ap_dNotV, DL.ap_dIf, DL.ap_dUn, DL.ap_dCall, DL.ap_dNoPart, DL.ap_dPart, DL.ap_dSl, DL.ap_dBM, DL.ap_dBM0, DL.ap_dFn, DL.ap_dLc, DL.ap_dYes, DL.ap_dRg1, DL.ap_dRg2, DL.ap_dLrg, DL.ap_dTrg, DL.ap_iAny, DL.ap_iRng1, DL.ap_iRng2, DL.ap_iRng3, DL.ap_rng1P, DL.ap_rng2P, DL.ap_rng3P, DL.ap_iZip, DL.ap_dLzip, DL.ap_dZ2, DL.ap_iEnm, DL.ap_a1, DL.ap_a2, DL.ap_sqT, DL.ap_sqR, DL.ap_dNext, DL.ap_dSeq, DL.ap_dBreak, DL.ap_dCont, DL.ap_dDrop, DL.ap_dRet, DL.ap_dRetN, DL.ap_dIfS, DL.ap_dAsg, DL.ap_dPar, DL.ap_a3, DL.ap_dPar3, DL.ap_dAug, DL.ap_dAugS, DL.ap_dFor, DL.ap_gSet, DL.ap_gTup, DL.ap_gNil, DL.ap_gCons, DL.ap_gSub, DL.tr_non, DL.tr_bl, DL.tr_int, DL.tr_str, DL.tr_tup, DL.tr_ref, DL.ad_int, DL.ad_tup, DL.ad_ref, DL.sb_int, DL.mu_int, DL.mu_tup, DL.mu_ref, DL.fd_int, DL.md_int, DL.pw_int, DL.ng_int, DL.i2_int, DL.ci_int, DL.is_bl, DL.is_nn, DL.is_in, DL.is_tn, DL.is_rn, DL.is_sn, DL.ix_tup, DL.ix_ref, DL.ixl_ref, DL.sl_tup, DL.sl_lw, DL.sl_ref, DL.st_ref, DL.ap_append, DL.ap_extend, DL.ap_popI, DL.ap_pop0, DL.ty_ref, DL.ln_tup, DL.ln_ref, DL.ab_int, DL.in_int, DL.in_bl, DL.mn_int, DL.mx_int, DL.sm_of, DL.al_ref, DL.an_ref, DL.li_of, DL.tu_of, DL.so_ref, DL.rd_ref, DL.go_int, DL.go_str, DL.pa_int, DL.ka_int, DL.ka_str, DL.ap_dGetI, DL.ap_dInD, DL.ap_dGet1, DL.ap_dGet2, DL.ap_dDisp1, DL.ap_dPutS, DL.ap_dStar, DL.ap_dOr, DL.ap_dSortD, DL.ap_dMinD, DL.ap_dRevL, DL.ap_dMin3, DL.ap_dNever, DL.getV_0, DL.getV_s, DL.set_0, DL.set_s, DL.startD_nil, DL.startD_cons, DL.rep_0, DL.rep_s, DL.wipe_nil, DL.wipe_cons, DL.isB_bl, DL.isN_int, DL.someD_some, DL.at0, DL.at1, DL.at2, DL.at3, DL.at4, DL.at5, DL.up1_same, DL.up_up]
      exact leaf
    | bl b =>
      simp only [isT, isL, Bool.or_self, Bool.false_eq_true, if_false]
      refine ne_bls ?_
      rw [decide_eq_true rfl]
      try simp only [DL.ap_dC, DL.ap_dVar, DL.ap_dNil, DL.ap_dCons, DL.ap_dTup, DL.ap_dLst, DL.ap_dOp, DL.ap_dB, DL.ap_dChain, DL.ap_dTru, DL.ap_dAndT, DL.ap_dOrT, DL.ap_dNotT, DL.ap_dAndV, DL.ap_dOrV, DL.ap_dNotV, DL.ap_dIf, DL.ap_dUn, DL.ap_dCall, DL.ap_dNoPart, DL.ap_dPart, DL.ap_dSl, DL.ap_dBM, DL.ap_dBM0, DL.ap_dFn, DL.ap_dLc, DL.ap_dYes, DL.ap_dRg1, DL.ap_dRg2, DL.ap_dLrg, DL.ap_dTrg, DL.ap_iAny, DL.ap_iRng1, DL.ap_iRng2, DL.ap_iRng3, DL.ap_rng1P, DL.ap_rng2P, DL.ap_rng3P, DL.ap_iZip, DL.ap_dLzip, DL.ap_dZ2, DL.ap_iEnm, DL.ap_a1, DL.ap_a2, DL.ap_sqT, DL.ap_sqR, DL.ap_dNext, DL.ap_dSeq, DL.ap_dBreak, DL.ap_dCont, DL.ap_dDrop, DL.ap_dRet, DL.ap_dRetN, DL.ap_dIfS, DL.ap_dAsg, DL.ap_dPar, DL.ap_a3, DL.ap_dPar3, DL.ap_dAug, DL.ap_dAugS, DL.ap_dFor, DL.ap_gSet, DL.ap_gTup, DL.ap_gNil, DL.ap_gCons, DL.ap_gSub, DL.tr_non, DL.tr_bl, DL.tr_int, DL.tr_str, DL.tr_tup, DL.tr_ref, DL.ad_int, DL.ad_tup, DL.ad_ref, DL.sb_int, DL.mu_int, DL.mu_tup, DL.mu_ref, DL.fd_int, DL.md_int, DL.pw_int, DL.ng_int, DL.i2_int, DL.ci_int, DL.is_bl, DL.is_nn, DL.is_in, DL.is_tn, DL.is_rn, DL.is_sn, DL.ix_tup, DL.ix_ref, DL.ixl_ref, DL.sl_tup, DL.sl_lw, DL.sl_ref, DL.st_ref, DL.ap_append, DL.ap_extend, DL.ap_popI, DL.ap_pop0, DL.ty_ref, DL.ln_tup, DL.ln_ref, DL.ab_int, DL.in_int, DL.in_bl, DL.mn_int, DL.mx_int, DL.sm_of, DL.al_ref, DL.an_ref, DL.li_of, DL.tu_of, DL.so_ref, DL.rd_ref, DL.go_int, DL.go_str, DL.pa_int, DL.ka_int, DL.ka_str, DL.ap_dGetI, DL.ap_dInD, DL.ap_dGet1, DL.ap_dGet2, DL.ap_dDisp1, DL.ap_dPutS, DL.ap_dStar, DL.ap_dOr, DL.ap_dSortD, DL.ap_dMinD, DL.ap_dRevL, DL.ap_dMin3, DL.ap_dNever, DL.getV_0, DL.getV_s, DL.set_0, DL.set_s, DL.startD_nil, DL.startD_cons, DL.rep_0, DL.rep_s, DL.wipe_nil, DL.wipe_cons, DL.isB_bl, DL.isN_int, DL.someD_some, DL.at0, DL.at1, DL.at2, DL.at3, DL.at4, DL.at5, DL.up1_same, DL.up_up]
      exact leaf
    | int i =>
      simp only [isT, isL, Bool.or_self, Bool.false_eq_true, if_false]
      refine ne_ints ?_
      rw [decide_eq_true rfl]
      try simp only [DL.ap_dC, DL.ap_dVar, DL.ap_dNil, DL.ap_dCons, DL.ap_dTup, DL.ap_dLst, DL.ap_dOp, DL.ap_dB, DL.ap_dChain, DL.ap_dTru, DL.ap_dAndT, DL.ap_dOrT, DL.ap_dNotT, DL.ap_dAndV, DL.ap_dOrV, DL.ap_dNotV, DL.ap_dIf, DL.ap_dUn, DL.ap_dCall, DL.ap_dNoPart, DL.ap_dPart, DL.ap_dSl, DL.ap_dBM, DL.ap_dBM0, DL.ap_dFn, DL.ap_dLc, DL.ap_dYes, DL.ap_dRg1, DL.ap_dRg2, DL.ap_dLrg, DL.ap_dTrg, DL.ap_iAny, DL.ap_iRng1, DL.ap_iRng2, DL.ap_iRng3, DL.ap_rng1P, DL.ap_rng2P, DL.ap_rng3P, DL.ap_iZip, DL.ap_dLzip, DL.ap_dZ2, DL.ap_iEnm, DL.ap_a1, DL.ap_a2, DL.ap_sqT, DL.ap_sqR, DL.ap_dNext, DL.ap_dSeq, DL.ap_dBreak, DL.ap_dCont, DL.ap_dDrop, DL.ap_dRet, DL.ap_dRetN, DL.ap_dIfS, DL.ap_dAsg, DL.ap_dPar, DL.ap_a3, DL.ap_dPar3, DL.ap_dAug, DL.ap_dAugS, DL.ap_dFor, DL.ap_gSet, DL.ap_gTup, DL.ap_gNil, DL.ap_gCons, DL.ap_gSub, DL.tr_non, DL.tr_bl, DL.tr_int, DL.tr_str, DL.tr_tup, DL.tr_ref, DL.ad_int, DL.ad_tup, DL.ad_ref, DL.sb_int, DL.mu_int, DL.mu_tup, DL.mu_ref, DL.fd_int, DL.md_int, DL.pw_int, DL.ng_int, DL.i2_int, DL.ci_int, DL.is_bl, DL.is_nn, DL.is_in, DL.is_tn, DL.is_rn, DL.is_sn, DL.ix_tup, DL.ix_ref, DL.ixl_ref, DL.sl_tup, DL.sl_lw, DL.sl_ref, DL.st_ref, DL.ap_append, DL.ap_extend, DL.ap_popI, DL.ap_pop0, DL.ty_ref, DL.ln_tup, DL.ln_ref, DL.ab_int, DL.in_int, DL.in_bl, DL.mn_int, DL.mx_int, DL.sm_of, DL.al_ref, DL.an_ref, DL.li_of, DL.tu_of, DL.so_ref, DL.rd_ref, DL.go_int, DL.go_str, DL.pa_int, DL.ka_int, DL.ka_str, DL.ap_dGetI, DL.ap_dInD, DL.ap_dGet1, DL.ap_dGet2, DL.ap_dDisp1, DL.ap_dPutS, DL.ap_dStar, DL.ap_dOr, DL.ap_dSortD, DL.ap_dMinD, DL.ap_dRevL, DL.ap_dMin3, DL.ap_dNever, DL.getV_0, DL.getV_s, DL.set_0, DL.set_s, DL.startD_nil, DL.startD_cons, DL.rep_0, DL.rep_s, DL.wipe_nil, DL.wipe_cons, DL.isB_bl, DL.isN_int, DL.someD_some, DL.at0, DL.at1, DL.at2, DL.at3, DL.at4, DL.at5, DL.up1_same, DL.up_up]
      exact leaf
    | str z =>
      simp only [isT, isL, Bool.or_self, Bool.false_eq_true, if_false]
      refine ne_strs ?_
      rw [decide_eq_true rfl]
      try simp only [DL.ap_dC, DL.ap_dVar, DL.ap_dNil, DL.ap_dCons, DL.ap_dTup, DL.ap_dLst, DL.ap_dOp, DL.ap_dB, DL.ap_dChain, DL.ap_dTru, DL.ap_dAndT, DL.ap_dOrT, DL.ap_dNotT, DL.ap_dAndV, DL.ap_dOrV, DL.ap_dNotV, DL.ap_dIf, DL.ap_dUn, DL.ap_dCall, DL.ap_dNoPart, DL.ap_dPart, DL.ap_dSl, DL.ap_dBM, DL.ap_dBM0, DL.ap_dFn, DL.ap_dLc, DL.ap_dYes, DL.ap_dRg1, DL.ap_dRg2, DL.ap_dLrg, DL.ap_dTrg, DL.ap_iAny, DL.ap_iRng1, DL.ap_iRng2, DL.ap_iRng3, DL.ap_rng1P, DL.ap_rng2P, DL.ap_rng3P, DL.ap_iZip, DL.ap_dLzip, DL.ap_dZ2, DL.ap_iEnm, DL.ap_a1, DL.ap_a2, DL.ap_sqT, DL.ap_sqR, DL.ap_dNext, DL.ap_dSeq, DL.ap_dBreak, DL.ap_dCont, DL.ap_dDrop, DL.ap_dRet, DL.ap_dRetN, DL.ap_dIfS, DL.ap_dAsg, DL.ap_dPar, DL.ap_a3, DL.ap_dPar3, DL.ap_dAug, DL.ap_dAugS, DL.ap_dFor, DL.ap_gSet, DL.ap_gTup, DL.ap_gNil, DL.ap_gCons, DL.ap_gSub, DL.tr_non, DL.tr_bl, DL.tr_int, DL.tr_str, DL.tr_tup, DL.tr_ref, DL.ad_int, DL.ad_tup, DL.ad_ref, DL.sb_int, DL.mu_int, DL.mu_tup, DL.mu_ref, DL.fd_int, DL.md_int, DL.pw_int, DL.ng_int, DL.i2_int, DL.ci_int, DL.is_bl, DL.is_nn, DL.is_in, DL.is_tn, DL.is_rn, DL.is_sn, DL.ix_tup, DL.ix_ref, DL.ixl_ref, DL.sl_tup, DL.sl_lw, DL.sl_ref, DL.st_ref, DL.ap_append, DL.ap_extend, DL.ap_popI, DL.ap_pop0, DL.ty_ref, DL.ln_tup, DL.ln_ref, DL.ab_int, DL.in_int, DL.in_bl, DL.mn_int, DL.mx_int, DL.sm_of, DL.al_ref, DL.an_ref, DL.li_of, DL.tu_of, DL.so_ref, DL.rd_ref, DL.go_int, DL.go_str, DL.pa_int, DL.ka_int, DL.ka_str, DL.ap_dGetI, DL.ap_dInD, DL.ap_dGet1, DL.ap_dGet2, DL.ap_dDisp1, DL.ap_dPutS, DL.ap_dStar, DL.ap_dOr, DL.ap_dSortD, DL.ap_dMinD, DL.ap_dRevL, DL.ap_dMin3, DL.ap_dNever, DL.getV_0, DL.getV_s, DL.set_0, DL.set_s, DL.startD_nil, DL.startD_cons, DL.rep_0, DL.rep_s, DL.wipe_nil, DL.wipe_cons, DL.isB_bl, DL.isN_int, DL.someD_some, DL.at0, DL.at1, DL.at2, DL.at3, DL.at4, DL.at5, DL.up1_same, DL.up_up]
      exact leaf
    | @tup n0 us vs hu =>
      simp only [isT, isL, Bool.true_or, if_true]
      have hul := hu.len
      rw [isi_tuple kx, isi_tuple ky]
      refine ne_bls ?_
      simp only [isT, decide_true, Bool.not_true, Bool.false_eq_true, if_false]
      try simp only [DL.ap_dC, DL.ap_dVar, DL.ap_dNil, DL.ap_dCons, DL.ap_dTup, DL.ap_dLst, DL.ap_dOp, DL.ap_dB, DL.ap_dChain, DL.ap_dTru, DL.ap_dAndT, DL.ap_dOrT, DL.ap_dNotT, DL.ap_dAndV, DL.ap_dOrV, DL.ap_dNotV, DL.ap_dIf, DL.ap_dUn, DL.ap_dCall, DL.ap_dNoPart, DL.ap_dPart, DL.ap_dSl, DL.ap_dBM, DL.ap_dBM0, DL.ap_dFn, DL.ap_dLc, DL.ap_dYes, DL.ap_dRg1, DL.ap_dRg2, DL.ap_dLrg, DL.ap_dTrg, DL.ap_iAny, DL.ap_iRng1, DL.ap_iRng2, DL.ap_iRng3, DL.ap_rng1P, DL.ap_rng2P, DL.ap_rng3P, DL.ap_iZip, DL.ap_dLzip, DL.ap_dZ2, DL.ap_iEnm, DL.ap_a1, DL.ap_a2, DL.ap_sqT, DL.ap_sqR, DL.ap_dNext, DL.ap_dSeq, DL.ap_dBreak, DL.ap_dCont, DL.ap_dDrop, DL.ap_dRet, DL.ap_dRetN, DL.ap_dIfS, DL.ap_dAsg, DL.ap_dPar, DL.ap_a3, DL.ap_dPar3, DL.ap_dAug, DL.ap_dAugS, DL.ap_dFor, DL.ap_gSet, DL.ap_gTup, DL.ap_gNil, DL.ap_gCons, DL.ap_gSub, DL.tr_non, DL.tr_bl, DL.tr_int, DL.tr_str, DL.tr_tup, DL.tr_ref, DL.ad_int, DL.ad_tup, DL.ad_ref, DL.sb_int, DL.mu_int, DL.mu_tup, DL.mu_ref, DL.fd_int, DL.md_int, DL.pw_int, DL.ng_int, DL.i2_int, DL.ci_int, DL.is_bl, DL.is_nn, DL.is_in, DL.is_tn, DL.is_rn, DL.is_sn, DL.ix_tup, DL.ix_ref, DL.ixl_ref, DL.sl_tup, DL.sl_lw, DL.sl_ref, DL.st_ref, DL.ap_append, DL.ap_extend, DL.ap_popI, DL.ap_pop0, DL.ty_ref, DL.ln_tup, DL.ln_ref, DL.ab_int, DL.in_int, DL.in_bl, DL.mn_int, DL.mx_int, DL.sm_of, DL.al_ref, DL.an_ref, DL.li_of, DL.tu_of, DL.so_ref, DL.rd_ref, DL.go_int, DL.go_str, DL.pa_int, DL.ka_int, DL.ka_str, DL.ap_dGetI, DL.ap_dInD, DL.ap_dGet1, DL.ap_dGet2, DL.ap_dDisp1, DL.ap_dPutS, DL.ap_dStar, DL.ap_dOr, DL.ap_dSortD, DL.ap_dMinD, DL.ap_dRevL, DL.ap_dMin3, DL.ap_dNever, DL.getV_0, DL.getV_s, DL.set_0, DL.set_s, DL.startD_nil, DL.startD_cons, DL.rep_0, DL.rep_s, DL.wipe_nil, DL.wipe_cons, DL.isB_bl, DL.isN_int, DL.someD_some, DL.at0, DL.at1, DL.at2, DL.at3, DL.at4, DL.at5, DL.up1_same, DL.up_up]
      try simp only [Bool.false_eq_true, if_false]
      refine ne_ints ?_
      rw [hul.1, decide_eq_true rfl]
      simp only [Bool.not_true, Bool.false_eq_true, if_false]
      unfold d__law_alike_1
      try simp only [DL.ap_dC, DL.ap_dVar, DL.ap_dNil, DL.ap_dCons, DL.ap_dTup, DL.ap_dLst, DL.ap_dOp, DL.ap_dB, DL.ap_dChain, DL.ap_dTru, DL.ap_dAndT, DL.ap_dOrT, DL.ap_dNotT, DL.ap_dAndV, DL.ap_dOrV, DL.ap_dNotV, DL.ap_dIf, DL.ap_dUn, DL.ap_dCall, DL.ap_dNoPart, DL.ap_dPart, DL.ap_dSl, DL.ap_dBM, DL.ap_dBM0, DL.ap_dFn, DL.ap_dLc, DL.ap_dYes, DL.ap_dRg1, DL.ap_dRg2, DL.ap_dLrg, DL.ap_dTrg, DL.ap_iAny, DL.ap_iRng1, DL.ap_iRng2, DL.ap_iRng3, DL.ap_rng1P, DL.ap_rng2P, DL.ap_rng3P, DL.ap_iZip, DL.ap_dLzip, DL.ap_dZ2, DL.ap_iEnm, DL.ap_a1, DL.ap_a2, DL.ap_sqT, DL.ap_sqR, DL.ap_dNext, DL.ap_dSeq, DL.ap_dBreak, DL.ap_dCont, DL.ap_dDrop, DL.ap_dRet, DL.ap_dRetN, DL.ap_dIfS, DL.ap_dAsg, DL.ap_dPar, DL.ap_a3, DL.ap_dPar3, DL.ap_dAug, DL.ap_dAugS, DL.ap_dFor, DL.ap_gSet, DL.ap_gTup, DL.ap_gNil, DL.ap_gCons, DL.ap_gSub, DL.tr_non, DL.tr_bl, DL.tr_int, DL.tr_str, DL.tr_tup, DL.tr_ref, DL.ad_int, DL.ad_tup, DL.ad_ref, DL.sb_int, DL.mu_int, DL.mu_tup, DL.mu_ref, DL.fd_int, DL.md_int, DL.pw_int, DL.ng_int, DL.i2_int, DL.ci_int, DL.is_bl, DL.is_nn, DL.is_in, DL.is_tn, DL.is_rn, DL.is_sn, DL.ix_tup, DL.ix_ref, DL.ixl_ref, DL.sl_tup, DL.sl_lw, DL.sl_ref, DL.st_ref, DL.ap_append, DL.ap_extend, DL.ap_popI, DL.ap_pop0, DL.ty_ref, DL.ln_tup, DL.ln_ref, DL.ab_int, DL.in_int, DL.in_bl, DL.mn_int, DL.mx_int, DL.sm_of, DL.al_ref, DL.an_ref, DL.li_of, DL.tu_of, DL.so_ref, DL.rd_ref, DL.go_int, DL.go_str, DL.pa_int, DL.ka_int, DL.ka_str, DL.ap_dGetI, DL.ap_dInD, DL.ap_dGet1, DL.ap_dGet2, DL.ap_dDisp1, DL.ap_dPutS, DL.ap_dStar, DL.ap_dOr, DL.ap_dSortD, DL.ap_dMinD, DL.ap_dRevL, DL.ap_dMin3, DL.ap_dNever, DL.getV_0, DL.getV_s, DL.set_0, DL.set_s, DL.startD_nil, DL.startD_cons, DL.rep_0, DL.rep_s, DL.wipe_nil, DL.wipe_cons, DL.isB_bl, DL.isN_int, DL.someD_some, DL.at0, DL.at1, DL.at2, DL.at3, DL.at4, DL.at5, DL.up1_same, DL.up_up]
      refine ⟨lstAt_of g1 trivial, ?_⟩
      (intro q n3; generalize eS_ : up1 _ q _ = S3; have e3 := Ext.new_eq eS_ n3; have f3 := up_eq eS_; clear eS_)
      refine lstAt_of (e3 _ _ g1) (lstAt_of f3 ⟨?_, ?_⟩)
      · rw [zipD_length]; exact line (by omega)
      · refine ⟨m1 + n0, by omega, L ++ zipD us vs, k + 1, xs1 ++ us, ys1 ++ vs, _, _, (by first | exact rfl | trivial), (by first | exact rfl | exact up1_same), ?_, ?_, ht.app hu, by omega, ?_⟩
        · rw [List.drop_append_of_le_length (by omega), hdrop, zipD_app hl2.1]
        · rw [List.length_append, List.length_append, zipD_length]; omega
        · exact fun b cc hb => by
            have nb : b ≠ p := ne_new hb n1
            rw [up1_ne nb]
            exact e3 _ _ (ge _ _ hb)
    | @lst n0 a b us vs ha hb hu =>
      simp only [isT, isL, Bool.or_true, if_true]
      have hul := hu.len
      rw [isi_tuple kx, isi_tuple ky]
      refine ne_bls ?_
      simp only [isT, decide_true, Bool.not_true, Bool.false_eq_true, if_false]
      try simp only [DL.ap_dC, DL.ap_dVar, DL.ap_dNil, DL.ap_dCons, DL.ap_dTup, DL.ap_dLst, DL.ap_dOp, DL.ap_dB, DL.ap_dChain, DL.ap_dTru, DL.ap_dAndT, DL.ap_dOrT, DL.ap_dNotT, DL.ap_dAndV, DL.ap_dOrV, DL.ap_dNotV, DL.ap_dIf, DL.ap_dUn, DL.ap_dCall, DL.ap_dNoPart, DL.ap_dPart, DL.ap_dSl, DL.ap_dBM, DL.ap_dBM0, DL.ap_dFn, DL.ap_dLc, DL.ap_dYes, DL.ap_dRg1, DL.ap_dRg2, DL.ap_dLrg, DL.ap_dTrg, DL.ap_iAny, DL.ap_iRng1, DL.ap_iRng2, DL.ap_iRng3, DL.ap_rng1P, DL.ap_rng2P, DL.ap_rng3P, DL.ap_iZip, DL.ap_dLzip, DL.ap_dZ2, DL.ap_iEnm, DL.ap_a1, DL.ap_a2, DL.ap_sqT, DL.ap_sqR, DL.ap_dNext, DL.ap_dSeq, DL.ap_dBreak, DL.ap_dCont, DL.ap_dDrop, DL.ap_dRet, DL.ap_dRetN, DL.ap_dIfS, DL.ap_dAsg, DL.ap_dPar, DL.ap_a3, DL.ap_dPar3, DL.ap_dAug, DL.ap_dAugS, DL.ap_dFor, DL.ap_gSet, DL.ap_gTup, DL.ap_gNil, DL.ap_gCons, DL.ap_gSub, DL.tr_non, DL.tr_bl, DL.tr_int, DL.tr_str, DL.tr_tup, DL.tr_ref, DL.ad_int, DL.ad_tup, DL.ad_ref, DL.sb_int, DL.mu_int, DL.mu_tup, DL.mu_ref, DL.fd_int, DL.md_int, DL.pw_int, DL.ng_int, DL.i2_int, DL.ci_int, DL.is_bl, DL.is_nn, DL.is_in, DL.is_tn, DL.is_rn, DL.is_sn, DL.ix_tup, DL.ix_ref, DL.ixl_ref, DL.sl_tup, DL.sl_lw, DL.sl_ref, DL.st_ref, DL.ap_append, DL.ap_extend, DL.ap_popI, DL.ap_pop0, DL.ty_ref, DL.ln_tup, DL.ln_ref, DL.ab_int, DL.in_int, DL.in_bl, DL.mn_int, DL.mx_int, DL.sm_of, DL.al_ref, DL.an_ref, DL.li_of, DL.tu_of, DL.so_ref, DL.rd_ref, DL.go_int, DL.go_str, DL.pa_int, DL.ka_int, DL.ka_str, DL.ap_dGetI, DL.ap_dInD, DL.ap_dGet1, DL.ap_dGet2, DL.ap_dDisp1, DL.ap_dPutS, DL.ap_dStar, DL.ap_dOr, DL.ap_dSortD, DL.ap_dMinD, DL.ap_dRevL, DL.ap_dMin3, DL.ap_dNever, DL.getV_0, DL.getV_s, DL.set_0, DL.set_s, DL.startD_nil, DL.startD_cons, DL.rep_0, DL.rep_s, DL.wipe_nil, DL.wipe_cons, DL.isB_bl, DL.isN_int, DL.someD_some, DL.at0, DL.at1, DL.at2, DL.at3, DL.at4, DL.at5, DL.up1_same, DL.up_up]
      try simp only [Bool.false_eq_true, if_false]
      refine lstAt_of (ge _ _ ha) (lstAt_of (ge _ _ hb) ?_)
      refine ne_ints ?_
      rw [hul.1, decide_eq_true rfl]
      simp only [Bool.not_true, Bool.false_eq_true, if_false]
      unfold d__law_alike_1
      try simp only [DL.ap_dC, DL.ap_dVar, DL.ap_dNil, DL.ap_dCons, DL.ap_dTup, DL.ap_dLst, DL.ap_dOp, DL.ap_dB, DL.ap_dChain, DL.ap_dTru, DL.ap_dAndT, DL.ap_dOrT, DL.ap_dNotT, DL.ap_dAndV, DL.ap_dOrV, DL.ap_dNotV, DL.ap_dIf, DL.ap_dUn, DL.ap_dCall, DL.ap_dNoPart, DL.ap_dPart, DL.ap_dSl, DL.ap_dBM, DL.ap_dBM0, DL.ap_dFn, DL.ap_dLc, DL.ap_dYes, DL.ap_dRg1, DL.ap_dRg2, DL.ap_dLrg, DL.ap_dTrg, DL.ap_iAny, DL.ap_iRng1, DL.ap_iRng2, DL.ap_iRng3, DL.ap_rng1P, DL.ap_rng2P, DL.ap_rng3P, DL.ap_iZip, DL.ap_dLzip, DL.ap_dZ2, DL.ap_iEnm, DL.ap_a1, DL.ap_a2, DL.ap_sqT, DL.ap_sqR, DL.ap_dNext, DL.ap_dSeq, DL.ap_dBreak, DL.ap_dCont, DL.ap_dDrop, DL.ap_dRet, DL.ap_dRetN, DL.ap_dIfS, DL.ap_dAsg, DL.ap_dPar, DL.ap_a3, DL.ap_dPar3, DL.ap_dAug, DL.ap_dAugS, DL.ap_dFor, DL.ap_gSet, DL.ap_gTup, DL.ap_gNil, DL.ap_gCons, DL.ap_gSub, DL.tr_non, DL.tr_bl, DL.tr_int, DL.tr_str, DL.tr_tup, DL.tr_ref, DL.ad_int, DL.ad_tup, DL.ad_ref, DL.sb_int, DL.mu_int, DL.mu_tup, DL.mu_ref, DL.fd_int, DL.md_int, DL.pw_int, DL.ng_int, DL.i2_int, DL.ci_int, DL.is_bl, DL.is_nn, DL.is_in, DL.is_tn, DL.is_rn, DL.is_sn, DL.ix_tup, DL.ix_ref, DL.ixl_ref, DL.sl_tup, DL.sl_lw, DL.sl_ref, DL.st_ref, DL.ap_append, DL.ap_extend, DL.ap_popI, DL.ap_pop0, DL.ty_ref, DL.ln_tup, DL.ln_ref, DL.ab_int, DL.in_int, DL.in_bl, DL.mn_int, DL.mx_int, DL.sm_of, DL.al_ref, DL.an_ref, DL.li_of, DL.tu_of, DL.so_ref, DL.rd_ref, DL.go_int, DL.go_str, DL.pa_int, DL.ka_int, DL.ka_str, DL.ap_dGetI, DL.ap_dInD, DL.ap_dGet1, DL.ap_dGet2, DL.ap_dDisp1, DL.ap_dPutS, DL.ap_dStar, DL.ap_dOr, DL.ap_dSortD, DL.ap_dMinD, DL.ap_dRevL, DL.ap_dMin3, DL.ap_dNever, DL.getV_0, DL.getV_s, DL.set_0, DL.set_s, DL.startD_nil, DL.startD_cons, DL.rep_0, DL.rep_s, DL.wipe_nil, DL.wipe_cons, DL.isB_bl, DL.isN_int, DL.someD_some, DL.at0, DL.at1, DL.at2, DL.at3, DL.at4, DL.at5, DL.up1_same, DL.up_up]
      refine ⟨lstAt_of g1 trivial, lstAt_of (ge _ _ ha) (lstAt_of (ge _ _ hb) ?_)⟩
      (intro q n3; generalize eS_ : up1 _ q _ = S3; have e3 := Ext.new_eq eS_ n3; have f3 := up_eq eS_; clear eS_)
      refine lstAt_of (e3 _ _ g1) (lstAt_of f3 ⟨?_, ?_⟩)
      · rw [zipD_length]; exact line (by omega)
      · refine ⟨m1 + n0, by omega, L ++ zipD us vs, k + 1, xs1 ++ us, ys1 ++ vs, _, _, (by first | exact rfl | trivial), (by first | exact rfl | exact up1_same), ?_, ?_, ht.app hu, by omega, ?_⟩
        · rw [List.drop_append_of_le_length (by omega), hdrop, zipD_app hl2.1]
        · rw [List.length_append, List.length_append, zipD_length]; omega
        · exact fun b cc hb => by
            have nb : b ≠ p := ne_new hb n1
            rw [up1_ne nb]
            exact e3 _ _ (ge _ _ hb)
end Cc
set_option Elab.async false
set_option linter.all false
set_option maxRecDepth 100000
set_option maxHeartbeats 4000000
namespace TY
open PySem DL L2 Ca Cb Cc
class En (α : Type) where
  e : α → D
open En (e)
instance : En Int := ⟨.int⟩
instance : En Bool := ⟨.bl⟩
instance : En Str := ⟨.str⟩
instance : En Unit := ⟨fun _ => .non⟩
instance : En D := ⟨id⟩
instance {α : Type} [En α] : En (List α) := ⟨fun xs => .tup (xs.map e)⟩
instance {α β : Type} [En α] [En β] : En (α × β) := ⟨fun p => .tup [e p.1, e p.2]⟩
def eOpt {α : Type} [En α] : Option α → D
  | none => .non
  | some x => e x
instance {α : Type} [En α] : En (Option α) := ⟨eOpt⟩
structure T3 (α β γ : Type) where
  a : α
  b : β
  c : γ
deriving DecidableEq
structure T4 (α β γ δ : Type) where
  a : α
  b : β
  c : γ
  d : δ
deriving DecidableEq
instance {α β γ : Type} [En α] [En β] [En γ] : En (T3 α β γ) := ⟨fun p => .tup [e p.a, e p.b, e p.c]⟩
instance {α β γ δ : Type} [En α] [En β] [En γ] [En δ] : En (T4 α β γ δ) := ⟨fun p => .tup [e p.a, e p.b, e p.c, e p.d]⟩
structure St (B : List Addr) (S S' : Sto) : Prop where
  keep : ∀ a c, a ∉ B → S a = some c → S' a = some c
  bag : ∀ b, b ∈ B → ∀ c, Bag b c S → Bag b c S'
theorem St.refl (B : List Addr) (S : Sto) : St B S S := ⟨fun _ _ _ h => h, fun _ _ _ h => h⟩
theorem St.trans {B : List Addr} {S S1 S2 : Sto} (x : St B S S1) (y : St B S1 S2) : St B S S2 := ⟨fun a c n h => y.keep a c n (x.keep a c n h), fun b m c h => y.bag b m c (x.bag b m c h)⟩
theorem St.of {B : List Addr} {S S1 : Sto} (x : Ext S S1) : St B S S1 := ⟨fun a c _ h => x a c h, fun _ _ _ h => h.ext x⟩
theorem St.nil {S S1 : Sto} (x : St [] S S1) : Ext S S1 := fun a c h => x.keep a c (by simp) h
theorem St.mut {B : List Addr} {S0 S : Sto} {p : Addr} {c : Cell} (x : St B S0 S) (n : S0 p = none) : St B S0 (up1 S p c) := by
  refine ⟨fun a c' m h => ?_, fun b m c' h => ?_⟩
  · rw [up1_ne (ne_new h n)]; exact x.keep a c' m h
  · exact (x.bag b m c' h).put1 (h.ne n)
theorem St.none {B : List Addr} {S S1 : Sto} {p : Addr} (x : St B S S1) (hB : ∀ b ∈ B, ∃ c, Bag b c S1) (h : S1 p = none) : S p = none := by
  cases e : S p with
  | none => rfl
  | some c =>
    by_cases m : p ∈ B
    · obtain ⟨c', k⟩ := hB p m
      exact absurd rfl (k.ne h).1
    · rw [x.keep p c m e] at h; cases h
def ct (B O : List Addr) (S : Sto) : Sto := fun a => if a ∈ O ∨ a ∈ B then none else S a
theorem ct_at {B O : List Addr} {S : Sto} {a : Addr} {c : Cell} : ct B O S a = some c ↔ (a ∉ O ∧ a ∉ B) ∧ S a = some c := by
  unfold ct
  split
  · rename_i h
    constructor
    · intro z; cases z
    · intro z; rcases h with h | h
      · exact absurd h z.1.1
      · exact absurd h z.1.2
  · rename_i h
    exact ⟨fun z => ⟨⟨fun m => h (.inl m), fun m => h (.inr m)⟩, z⟩, fun z => z.2⟩
theorem ct_st {B O : List Addr} {S S' : Sto} (x : St B S S') : Ext (ct B O S) (ct B O S') := fun a c h => by
  obtain ⟨⟨m, n⟩, h⟩ := ct_at.mp h
  exact ct_at.mpr ⟨⟨m, n⟩, x.keep a c n h⟩
theorem ct_mut {B O : List Addr} {S : Sto} {p : Addr} {c : Cell} (m : p ∈ O) : ct B O (up1 S p c) = ct B O S := by
  funext a
  unfold ct
  by_cases h : a ∈ O ∨ a ∈ B
  · rw [if_pos h, if_pos h]
  · rw [if_neg h, if_neg h, up1_ne (fun z => h (.inl (by rw [z]; exact m)))]
theorem ct_new {B O : List Addr} {S S' : Sto} {p : Addr} (n : S p = none) (x : St B S S') : Ext (ct B O S) (ct B (p :: O) S') := fun a c h => by
  obtain ⟨⟨m, k⟩, h⟩ := ct_at.mp h
  exact ct_at.mpr ⟨⟨by rw [List.mem_cons]; exact fun z => z.elim (ne_new h n) m, k⟩, x.keep a c k h⟩
theorem ct_mono {B O O' : List Addr} {S : Sto} (h : ∀ a, a ∈ O' → a ∈ O) : Ext (ct B O S) (ct B O' S) := fun a c e => by
  obtain ⟨⟨m, k⟩, e⟩ := ct_at.mp e
  exact ct_at.mpr ⟨⟨fun z => m (h a z), k⟩, e⟩
theorem ct_in {B O : List Addr} {S : Sto} {p : Addr} : Ext (ct B (p :: O) S) (ct [] [p] (ct B O S)) := fun a c e => by
  obtain ⟨⟨m, k⟩, e⟩ := ct_at.mp e
  rw [List.mem_cons] at m
  exact ct_at.mpr ⟨⟨by simp; exact fun z => m (.inl z), by simp⟩, ct_at.mpr ⟨⟨fun z => m (.inr z), k⟩, e⟩⟩
theorem ct_out {B O : List Addr} {S : Sto} {p : Addr} : Ext (ct [] [p] (ct B O S)) (ct B (p :: O) S) := fun a c e => by
  obtain ⟨⟨m, _⟩, e⟩ := ct_at.mp e
  obtain ⟨⟨m2, k⟩, e⟩ := ct_at.mp e
  exact ct_at.mpr ⟨⟨by rw [List.mem_cons]; exact fun z => z.elim (fun z => m (by simp [z])) m2, k⟩, e⟩
theorem ct_app {B O : List Addr} {S : Sto} : ct [] (O ++ B) S = ct B O S := by
  funext a; simp [ct]
theorem ct_up1 {B O : List Addr} {S : Sto} {p : Addr} {c : Cell} (m : p ∉ O) (k : p ∉ B) : ct B O (up1 S p c) = up1 (ct B O S) p c := by
  funext a
  by_cases h : a = p
  · subst h; rw [up1_same]; unfold ct; rw [if_neg (by simp [m, k]), up1_same]
  · rw [up1_ne h]; unfold ct; rw [up1_ne h]
structure Rep (α : Type) where
  r : Sto → α → D → Prop
  mono : ∀ {S S' : Sto} {x : α} {d : D}, Ext S S' → r S x d → r S' x d
theorem All2.imp {α β : Type} {R R' : α → β → Prop} (h : ∀ x y, R x y → R' x y) {xs : List α} {ys : List β} (a : All2 R xs ys) : All2 R' xs ys := by
  induction a with
  | nil => exact .nil
  | cons r _ ih => exact .cons (h _ _ r) ih
def v (α : Type) [En α] : Rep α := ⟨fun _ x d => d = e x, fun _ h => h⟩
theorem ct_mm {S S' : Sto} {O : List Addr} (x : Ext S S') : Ext (ct [] O S) (ct [] O S') := ct_st (St.of x)
def lst {α : Type} (R : Rep α) : Rep (List α) := ⟨fun S xs d => ∃ p ds, d = .ref p ∧ S p = some (.lst ds) ∧ All2 (R.r (ct [] [p] S)) xs ds,
  fun x ⟨p, ds, h1, h2, h3⟩ => ⟨p, ds, h1, x _ _ h2, All2.imp (fun _ _ h => R.mono (ct_mm x) h) h3⟩⟩
theorem all2_v {α : Type} [En α] {S : Sto} : ∀ {xs : List α} {ds : List D}, All2 ((v α).r S) xs ds → ds = xs.map e
  | _, _, .nil => rfl
  | _, _, .cons h t => by rw [all2_v t, show _ = _ from h]; rfl
theorem all2_mk {α : Type} [En α] {S : Sto} : ∀ (xs : List α), All2 ((v α).r S) xs (xs.map e)
  | [] => .nil
  | _ :: r => .cons rfl (all2_mk r)
theorem lst_v {α : Type} [En α] {S : Sto} {xs : List α} {d : D} : (lst (v α)).r S xs d ↔ ∃ p, d = .ref p ∧ S p = some (.lst (xs.map e)) :=
  ⟨fun ⟨p, ds, h1, h2, h3⟩ => ⟨p, h1, by rw [h2, all2_v h3]⟩, fun ⟨p, h1, h2⟩ => ⟨p, _, h1, h2, all2_mk xs⟩⟩
def lw : Rep (List Int) := ⟨fun _ xs d => d = .lw (xs.map e), fun _ h => h⟩
class Ky (κ : Type) [En κ] [DecidableEq κ] where
  cell : Option HO → List (κ × D) → Cell
  get : ∀ {S : Sto} {a : Addr} {lk : Option HO} {kvs : List (κ × D)} {k : κ}, S a = some (cell lk kvs) → GetD S a (e k) (valD kvs k)
  put : ∀ {S : Sto} {a : Addr} {kvs : List (κ × D)} {k : κ} {d : D}, S a = some (cell none kvs) → kvs.length < sizeLine → PutD S a (e k) d (up1 S a (cell none (putD kvs k d)))
  dict : ∀ {S : Sto} {a : Addr} {lk : Option HO} {kvs : List (κ × D)}, S a = some (cell lk kvs) → IsDD S a
  nolst : ∀ {lk : Option HO} {kvs : List (κ × D)} {ds : List D}, cell lk kvs ≠ .lst ds
theorem valD_inj {κ μ : Type} [DecidableEq κ] [DecidableEq μ] (f : κ → μ) (hf : ∀ a b, f a = f b → a = b) (k : κ) : ∀ kvs : List (κ × D), valD (kvs.map fun p => (f p.1, p.2)) (f k) = valD kvs k
  | [] => rfl
  | p :: r => by
    rw [List.map_cons]
    by_cases h : p.1 = k
    · rw [valD_pos h, valD_pos (by rw [← h])]
    · rw [valD_neg h, valD_neg (fun z => h (hf _ _ z)), valD_inj f hf k r]
theorem putD_inj {κ μ : Type} [DecidableEq κ] [DecidableEq μ] (f : κ → μ) (hf : ∀ a b, f a = f b → a = b) (k : κ) (d : D) (kvs : List (κ × D)) : putD (kvs.map fun p => (f p.1, p.2)) (f k) d = (putD kvs k d).map fun p => (f p.1, p.2) := by
  have e1 : ∀ l : List (κ × D), ((l.map fun p => (f p.1, p.2)).any fun kv => decide (kv.1 = f k)) = l.any fun kv => decide (kv.1 = k) := by
    intro l
    rw [List.any_map]
    refine congrArg (fun g => l.any g) (funext fun p => ?_)
    show decide (f p.1 = f k) = decide (p.1 = k)
    by_cases h : p.1 = k
    · simp [h]
    · rw [decide_eq_false h, decide_eq_false (fun z => h (hf _ _ z))]
  unfold putD
  rw [e1]
  split
  · rw [List.map_map, List.map_map]
    refine List.map_congr_left fun p _ => ?_
    show (if f p.1 = f k then (f p.1, d) else (f p.1, p.2)) = _
    by_cases h : p.1 = k
    · simp [h]
    · rw [if_neg (fun z => h (hf _ _ z))]
      simp [h]
  · simp
instance : Ky Int where
  cell lk kvs := .dK lk (kvs.map fun p => (.inl p.1, p.2))
  get {S a lk kvs k} h := .inl ⟨lk, _, .inl k, h, rfl, (valD_inj (Sum.inl) (fun _ _ z => by cases z; rfl) k kvs).symm⟩
  put {S a kvs k d} h hl := .inl ⟨_, .inl k, h, rfl, by rw [List.length_map]; exact hl, by rw [putD_inj (Sum.inl) (fun _ _ z => by cases z; rfl)]⟩
  dict h := .inl ⟨_, _, h⟩
  nolst h := by cases h
instance : Ky Str where
  cell lk kvs := .dK lk (kvs.map fun p => (.inr p.1, p.2))
  get {S a lk kvs k} h := .inl ⟨lk, _, .inr k, h, rfl, (valD_inj (Sum.inr) (fun _ _ z => by cases z; rfl) k kvs).symm⟩
  put {S a kvs k d} h hl := .inl ⟨_, .inr k, h, rfl, by rw [List.length_map]; exact hl, by rw [putD_inj (Sum.inr) (fun _ _ z => by cases z; rfl)]⟩
  dict h := .inl ⟨_, _, h⟩
  nolst h := by cases h
theorem map_inl_inj : ∀ a b : List Int, a.map (Sum.inl : Int → L2.Key) = b.map Sum.inl → a = b
  | [], [], _ => rfl
  | [], _ :: _, h => by simp at h
  | _ :: _, [], h => by simp at h
  | x :: a, y :: b, h => by
    rw [List.map_cons, List.map_cons, List.cons.injEq] at h
    rw [map_inl_inj a b h.2, show x = y by cases h.1; rfl]
theorem key_ints (k : List Int) : (e k : D) = .tup ((k.map Sum.inl).map keyD) := by
  show D.tup (k.map D.int) = _
  rw [List.map_map]; rfl
instance : Ky (List Int) where
  cell lk kvs := .dT lk (kvs.map fun p => (p.1.map Sum.inl, p.2))
  get {S a lk kvs k} h := .inr ⟨lk, _, k.map Sum.inl, h, key_ints k, (valD_inj (fun k : List Int => k.map (Sum.inl : Int → L2.Key)) map_inl_inj k kvs).symm⟩
  put {S a kvs k d} h hl := .inr ⟨_, k.map Sum.inl, h, key_ints k, by rw [List.length_map]; exact hl, by rw [putD_inj (fun k : List Int => k.map (Sum.inl : Int → L2.Key)) map_inl_inj]⟩
  dict h := .inr ⟨_, _, h⟩
  nolst h := by cases h
def dct (κ : Type) {α : Type} [En κ] [DecidableEq κ] [Ky κ] (R : Rep α) : Rep (List (κ × α)) := ⟨fun S xs d => ∃ p kvs, d = .ref p ∧ S p = some (Ky.cell none kvs) ∧ All2 (fun (x : κ × α) (y : κ × D) => y.1 = x.1 ∧ R.r (ct [] [p] S) x.2 y.2) xs kvs,
  fun x ⟨p, ds, h1, h2, h3⟩ => ⟨p, ds, h1, x _ _ h2, All2.imp (fun _ _ h => ⟨h.1, R.mono (ct_mm x) h.2⟩) h3⟩⟩
def ED {α : Type} (R : Rep α) (B O : List Addr) (t : DE) (ρ : Nv) (S : Sto) (x : α) : Prop :=
  ∀ S1, St B S S1 → ∀ Q : DQ, (∀ d S2, St B S1 S2 → R.r (ct B O S2) x d → Q d S2) → t ρ S1 Q
def Fr (S : Sto) (d : D) : Prop := ∃ p, d = .ref p ∧ S p = none
def EN {α : Type} (R : Rep α) (B O : List Addr) (t : DE) (ρ : Nv) (S : Sto) (x : α) : Prop :=
  ∀ S1, St B S S1 → ∀ Q : DQ, (∀ d S2, St B S1 S2 → R.r (ct B O S2) x d → Fr S1 d → Q d S2) → t ρ S1 Q
def EB (B : List Addr) (t : DT) (ρ : Nv) (S : Sto) (x : Bool) : Prop :=
  ∀ S1, St B S S1 → ∀ Q : Bool → Sto → Prop, (∀ S2, St B S1 S2 → Q x S2) → t ρ S1 Q
abbrev EI {α : Type} [En α] (B : List Addr) (t : DE) (ρ : Nv) (S : Sto) (x : α) : Prop := ED (v α) B [] t ρ S x
def EL (B : List Addr) (t : DA) (ρ : Nv) (S : Sto) (ds : List D) : Prop :=
  ∀ S1, St B S S1 → ∀ Q : List D → Sto → Prop, (∀ S2, St B S1 S2 → Q ds S2) → t ρ S1 Q
def ELR {α : Type} (R : Rep α) (B O : List Addr) (t : DA) (ρ : Nv) (S : Sto) (xs : List α) : Prop :=
  ∀ S1, St B S S1 → ∀ Q : List D → Sto → Prop, (∀ ds S2, St B S1 S2 → All2 (R.r (ct B O S2)) xs ds → Q ds S2) → t ρ S1 Q
structure RepL (τ : Type) where
  r : Sto → τ → List D → Prop
  mono : ∀ {S S' : Sto} {x : τ} {d : List D}, Ext S S' → r S x d → r S' x d
def RepL.nil : RepL Unit := ⟨fun _ _ ds => ds = [], fun _ h => h⟩
def RepL.cons {α τ : Type} (R : Rep α) (T : RepL τ) : RepL (α × τ) := ⟨fun S x ds => ∃ d r, ds = d :: r ∧ R.r S x.1 d ∧ T.r S x.2 r, fun x ⟨d, r, h, h1, h2⟩ => ⟨d, r, h, R.mono x h1, T.mono x h2⟩⟩
def EA {τ : Type} (T : RepL τ) (B O : List Addr) (t : DA) (ρ : Nv) (S : Sto) (x : τ) : Prop :=
  ∀ S1, St B S S1 → ∀ Q : List D → Sto → Prop, (∀ ds S2, St B S1 S2 → T.r (ct B O S2) x ds → Q ds S2) → t ρ S1 Q
section
variable {α β γ : Type} {R : Rep α} {B O O' : List Addr} {t ta tb tc : DE} {ρ : Nv} {S S' : Sto} {x : α}
theorem ED.st (h : ED R B O t ρ S x) (k : St B S S') : ED R B O t ρ S' x := fun S1 k1 => h S1 (k.trans k1)
theorem EN.ed (h : EN R B O t ρ S x) : ED R B O t ρ S x := fun S1 k1 Q q => h S1 k1 Q fun d S2 k2 r _ => q d S2 k2 r
theorem ED.o [En α] {x : α} (h : ED (v α) B O t ρ S x) : ED (v α) B O' t ρ S x := fun S1 k1 Q q => h S1 k1 Q fun d S2 k2 r => q d S2 k2 r
theorem ed_var {i : Nat} {d : D} (x : α) (h : ρ[i]? = some (some d)) (r : R.r (ct B O S) x d) : ED R B O (dVar i) ρ S x := fun S1 k1 Q q => ⟨d, h, q d S1 (St.refl _ _) (R.mono (ct_st k1) r)⟩
theorem ei_var [En α] {i : Nat} (x : α) (h : ρ[i]? = some (some (e x))) : EI B (dVar i) ρ S x := fun S1 k1 Q q => ⟨_, h, q _ S1 (St.refl _ _) rfl⟩
theorem ei_c [En α] (x : α) {d : D} (h : d = e x) : EI B (dC d) ρ S x := fun S1 k1 Q q => q _ S1 (St.refl _ _) h
theorem ei_op2 [En α] [En β] [En γ] {o : D2} {a : α} {b : β} {c : γ} (ha : EI B ta ρ S a) (hb : EI B tb ρ S b) (h : ∀ S Q, Q (e c) S → o (e a) (e b) S Q) : EI B (dOp o ta tb) ρ S c :=
  fun S1 k1 Q q => ha S1 k1 _ fun d S2 k2 r => hb S2 (k1.trans k2) _ fun d' S3 k3 r' => by
    cases r; cases r'
    exact h S3 Q (q _ S3 (k2.trans k3) rfl)
theorem ei_add {i j : Int} (ha : EI B ta ρ S i) (hb : EI B tb ρ S j) : EI B (dOp dAdd ta tb) ρ S (i + j) := ei_op2 ha hb fun S Q q => q
theorem ei_sub {i j : Int} (ha : EI B ta ρ S i) (hb : EI B tb ρ S j) : EI B (dOp dSub ta tb) ρ S (i - j) := ei_op2 ha hb fun S Q q => q
theorem ei_mul {i j : Int} (ha : EI B ta ρ S i) (hb : EI B tb ρ S j) (ok : CMulA i j) : EI B (dOp dMul ta tb) ρ S (i * j) := ei_op2 ha hb fun S Q q => ⟨ok, q⟩
theorem ei_fdiv {i j : Int} (ha : EI B ta ρ S i) (hb : EI B tb ρ S j) (ok : CDivW i j) : EI B (dOp dFdiv ta tb) ρ S (i / j) := ei_op2 ha hb fun S Q q => ⟨ok, q⟩
theorem ei_mod {i j : Int} (ha : EI B ta ρ S i) (hb : EI B tb ρ S j) (ok : 0 < j) : EI B (dOp dMod ta tb) ρ S (i % j) := ei_op2 ha hb fun S Q q => ⟨ok, q⟩
theorem ei_neg {i : Int} (ha : EI B ta ρ S i) : EI B (dUn dNeg ta) ρ S (-i) := fun S1 k1 Q q => ha S1 k1 _ fun d S2 k2 r => by cases r; exact q _ S2 k2 rfl
theorem ei_lt {i j : Int} (ha : EI B ta ρ S i) (hb : EI B tb ρ S j) : EI B (dOp (dCmpI fun i j => decide (i < j)) ta tb) ρ S (decide (i < j)) := ei_op2 ha hb fun S Q q => q
theorem ei_le {i j : Int} (ha : EI B ta ρ S i) (hb : EI B tb ρ S j) : EI B (dOp (dCmpI fun i j => decide (i ≤ j)) ta tb) ρ S (decide (i ≤ j)) := ei_op2 ha hb fun S Q q => q
theorem ei_gt {i j : Int} (ha : EI B ta ρ S i) (hb : EI B tb ρ S j) : EI B (dOp (dCmpI fun i j => decide (j < i)) ta tb) ρ S (decide (j < i)) := ei_op2 ha hb fun S Q q => q
theorem ei_ge {i j : Int} (ha : EI B ta ρ S i) (hb : EI B tb ρ S j) : EI B (dOp (dCmpI fun i j => decide (j ≤ i)) ta tb) ρ S (decide (j ≤ i)) := ei_op2 ha hb fun S Q q => q
theorem ei_fst [En α] [En β] {p : α × β} (ha : EI B ta ρ S p) : EI B (dOp dIx ta (dC (.int 0))) ρ S p.1 := fun S1 k1 Q q => ha S1 k1 _ fun d S2 k2 r => by cases r; exact ⟨_, rfl, q _ S2 k2 rfl⟩
theorem ei_snd [En α] [En β] {p : α × β} (ha : EI B ta ρ S p) : EI B (dOp dIx ta (dC (.int 1))) ρ S p.2 := fun S1 k1 Q q => ha S1 k1 _ fun d S2 k2 r => by cases r; exact ⟨_, rfl, q _ S2 k2 rfl⟩
def gI [Inhabited α] (xs : List α) (k : Int) : α := (xs[k.toNat]?).getD default
theorem gI_at [Inhabited α] {xs : List α} {k : Int} (ok : 0 ≤ k ∧ k < xs.length) : xs[k.toNat]? = some (gI xs k) := by
  unfold gI
  rw [List.getElem?_eq_getElem (by omega)]; rfl
theorem atI_map {f : α → D} [Inhabited α] {xs : List α} {k : Int} (ok : 0 ≤ k ∧ k < xs.length) : atI (xs.map f) k = some (f (gI xs k)) := by
  obtain ⟨n, rfl⟩ := Int.eq_ofNat_of_zero_le ok.1
  refine atn ?_
  rw [List.getElem?_map]
  have := gI_at ok
  rw [Int.toNat_natCast] at this
  rw [this]; rfl
theorem ei_at [En α] [Inhabited α] {xs : List α} {k : Int} (ha : EI B ta ρ S xs) (hb : EI B tb ρ S k) (ok : 0 ≤ k ∧ k < xs.length) : EI B (dOp dIx ta tb) ρ S (gI xs k) := ei_op2 ha hb fun S Q q => ⟨_, atI_map ok, q⟩
def lastI [Inhabited α] (xs : List α) : α := (xs.getLast?).getD default
theorem atI_last {f : α → D} [Inhabited α] {xs : List α} (ok : xs ≠ []) : atI (xs.map f) (-1) = some (f (lastI xs)) := by
  have hl : 0 < xs.length := List.length_pos_iff.mpr ok
  unfold atI ixN lastI
  rw [if_neg (by decide), if_pos (by rw [List.length_map]; omega)]
  show (xs.map f)[((-1 : Int) + ((xs.map f).length : Int)).toNat]? = _
  rw [List.length_map, show ((-1 : Int) + (xs.length : Int)).toNat = xs.length - 1 by omega, List.getElem?_map, List.getLast?_eq_getElem?, List.getElem?_eq_getElem (by omega)]
  rfl
theorem ei_last [En α] [Inhabited α] {xs : List α} (ha : EI B ta ρ S xs) (ok : xs ≠ []) : EI B (dOp dIx ta (dUn dNeg (dC (.int 1)))) ρ S (lastI xs) := fun S1 k1 Q q => ha S1 k1 _ fun d S2 k2 r => by
  cases r; exact ⟨_, atI_last ok, q _ S2 k2 rfl⟩
end
end TY
set_option Elab.async false
set_option linter.all false
set_option maxRecDepth 100000
set_option maxHeartbeats 4000000
namespace Cc
open PySem DL L2 Ca Cb
theorem lt_sorted {ns xs : List Int} (hp : ns.Perm xs) (hd : xs.Nodup) (hs : ns.Pairwise (· ≤ ·)) : ns.Pairwise (· < ·) := by
  have h2 : ns.Nodup := hp.symm.nodup hd
  exact (List.Pairwise.and hs h2).imp fun ⟨a, b⟩ => by omega
theorem cut_ints {ns : List Int} {k : Nat} : cutD (ns.map D.int) none (some (k : Int)) = (ns.take (min k ns.length)).map D.int := by
  have := cut_top (xs := ns.map D.int) (n := k)
  rw [List.length_map, ← List.map_take] at this
  exact this
theorem usual_all : ∀ us ∈ ([[1, 2, 5, 10], [5, 10, 25, 100], [1, 3, 4], [2, 3, 7], [1, 5, 10, 50], [3, 6, 12, 24]] : List (List Int)), us.Nodup ∧ (∀ v ∈ us, 1 ≤ v ∧ v ≤ 100) ∧ us.length ≤ 4 := by decide
theorem rng_ints {g : Int} : rngD 1 (g + 1 - 1).toNat = ((List.range g.toNat).map fun i : Nat => (1 : Int) + i).map D.int := by
  unfold rngD
  rw [List.map_map, show g + 1 - 1 = g by omega]
  rfl
theorem rng_nodup {g : Int} : ((List.range g.toNat).map fun i : Nat => (1 : Int) + i).Nodup := by
  refine List.Pairwise.map (R := (· ≠ ·)) _ (fun a b h => ?_) List.nodup_range
  show (1 : Int) + a ≠ 1 + b
  omega
theorem perm_ints {ys : List D} {ns : List Int} (h : ys.Perm (ns.map D.int)) : ∃ ms : List Int, ys = ms.map D.int ∧ ms.Perm ns := by
  have hI : ys.all isI = true := by
    rw [List.all_eq_true]
    intro y hy
    obtain ⟨i, _, rfl⟩ := List.mem_map.mp (h.mem_iff.mp hy)
    rfl
  obtain ⟨ms, rfl⟩ := isI_ints hI
  refine ⟨ms, rfl, ?_⟩
  have := h.map fun d => match d with | .int i => i | _ => 0
  rw [List.map_map, List.map_map] at this
  simpa [Function.comp_def] using this
theorem len__law_coinage : ∀ ds S P EP, sp__law_coinage ds S P EP → ds.length = 4 := by rintro _ S P EP ⟨a, c, k, g, cap, rfl, _⟩; rfl
theorem pure__law_coinage : ∀ ds S Q EP, sp__law_coinage ds S Q EP → d__law_coinage EP { nx := fun _ S' => Q .non S', rt := Q } (startD 7 ds) S := by
  rintro ds S Q EP ⟨a, c, k, g, cap, rfl, hb, hk, hkg, hg, hc0, hc1, h⟩
  -- the end: the values stand in a list
  have fin : ∀ (o4 : Option D) (v : Addr) (vs : List Int) (S1 : Sto), S1 v = some (.lst (vs.map D.int)) → v ≠ a → vs.length = k → vs.Pairwise (· < ·) → (∀ z ∈ vs, 1 ≤ z ∧ (z ≤ 100 ∨ z ≤ g)) → Bag a c S1 → ExtB a S S1 →
      d__law_coinage_1 EP { nx := fun _ S' => Q .non S', rt := Q } [some (.ref a), some (.int (k : Nat)), some (.int g), some (.int cap), o4, some (.ref v), none] S1 := by
    intro o4 v vs S1 hv nv hl hu hp hb1 e1
    unfold d__law_coinage_1
    try simp only [DL.ap_dC, DL.ap_dVar, DL.ap_dNil, DL.ap_dCons, DL.ap_dTup, DL.ap_dLst, DL.ap_dOp, DL.ap_dB, DL.ap_dChain, DL.ap_dTru, DL.ap_dAndT, DL.ap_dOrT, DL.ap_dNotT, DL.ap_dAndV, DL.ap_dOrV, DL.ap_dNotV, DL.ap_dIf, DL.ap_dUn, DL.ap_dCall, DL.ap_dNoPart, DL.ap_dPart, DL.ap_dSl, DL.ap_dBM, DL.ap_dBM0, DL.ap_dFn, DL.ap_dLc, DL.ap_dYes, DL.ap_dRg1, DL.ap_dRg2, DL.ap_dLrg, DL.ap_dTrg, DL.ap_iAny, DL.ap_iRng1, DL.ap_iRng2, DL.ap_iRng3, DL.ap_rng1P, DL.ap_rng2P, DL.ap_rng3P, DL.ap_iZip, DL.ap_dLzip, DL.ap_dZ2, DL.ap_iEnm, DL.ap_a1, DL.ap_a2, DL.ap_sqT, DL.ap_sqR, DL.ap_dNext, DL.ap_dSeq, DL.ap_dBreak, DL.ap_dCont, DL.ap_dDrop, DL.ap_dRet, DL.ap_dRetN, DL.ap_dIfS, DL.ap_dAsg, DL.ap_dPar, DL.ap_a3, DL.ap_dPar3, DL.ap_dAug, DL.ap_dAugS, DL.ap_dFor, DL.ap_gSet, DL.ap_gTup, DL.ap_gNil, DL.ap_gCons, DL.ap_gSub, DL.tr_non, DL.tr_bl, DL.tr_int, DL.tr_str, DL.tr_tup, DL.tr_ref, DL.ad_int, DL.ad_tup, DL.ad_ref, DL.sb_int, DL.mu_int, DL.mu_tup, DL.mu_ref, DL.fd_int, DL.md_int, DL.pw_int, DL.ng_int, DL.i2_int, DL.ci_int, DL.is_bl, DL.is_nn, DL.is_in, DL.is_tn, DL.is_rn, DL.is_sn, DL.ix_tup, DL.ix_ref, DL.ixl_ref, DL.sl_tup, DL.sl_lw, DL.sl_ref, DL.st_ref, DL.ap_append, DL.ap_extend, DL.ap_popI, DL.ap_pop0, DL.ty_ref, DL.ln_tup, DL.ln_ref, DL.ab_int, DL.in_int, DL.in_bl, DL.mn_int, DL.mx_int, DL.sm_of, DL.al_ref, DL.an_ref, DL.li_of, DL.tu_of, DL.so_ref, DL.rd_ref, DL.go_int, DL.go_str, DL.pa_int, DL.ka_int, DL.ka_str, DL.ap_dGetI, DL.ap_dInD, DL.ap_dGet1, DL.ap_dGet2, DL.ap_dDisp1, DL.ap_dPutS, DL.ap_dStar, DL.ap_dOr, DL.ap_dSortD, DL.ap_dMinD, DL.ap_dRevL, DL.ap_dMin3, DL.ap_dNever, DL.getV_0, DL.getV_s, DL.set_0, DL.set_s, DL.startD_nil, DL.startD_cons, DL.rep_0, DL.rep_s, DL.wipe_nil, DL.wipe_cons, DL.isB_bl, DL.isN_int, DL.someD_some, DL.at0, DL.at1, DL.at2, DL.at3, DL.at4, DL.at5, DL.up1_same, DL.up_up]
    refine lstAt_of hv (lstAt_of hv ⟨by rw [List.length_map]; exact line (by omega), ?_⟩)
    refine lc_rel D.int (fun _ y => ∃ n, y = D.int n ∧ 0 ≤ n ∧ n ≤ cap) (fun S' => Bag a c S' ∧ ExtB a S S' ∧ S' v = some (.lst (vs.map D.int))) (fun _ hI => hI.2.2) vs (fun x hx S2 Y hI hY => ?_) S1 _ ⟨hb1, e1, hv⟩ fun ys S2 hys hI => ?_
    · try simp only [DL.ap_dC, DL.ap_dVar, DL.ap_dNil, DL.ap_dCons, DL.ap_dTup, DL.ap_dLst, DL.ap_dOp, DL.ap_dB, DL.ap_dChain, DL.ap_dTru, DL.ap_dAndT, DL.ap_dOrT, DL.ap_dNotT, DL.ap_dAndV, DL.ap_dOrV, DL.ap_dNotV, DL.ap_dIf, DL.ap_dUn, DL.ap_dCall, DL.ap_dNoPart, DL.ap_dPart, DL.ap_dSl, DL.ap_dBM, DL.ap_dBM0, DL.ap_dFn, DL.ap_dLc, DL.ap_dYes, DL.ap_dRg1, DL.ap_dRg2, DL.ap_dLrg, DL.ap_dTrg, DL.ap_iAny, DL.ap_iRng1, DL.ap_iRng2, DL.ap_iRng3, DL.ap_rng1P, DL.ap_rng2P, DL.ap_rng3P, DL.ap_iZip, DL.ap_dLzip, DL.ap_dZ2, DL.ap_iEnm, DL.ap_a1, DL.ap_a2, DL.ap_sqT, DL.ap_sqR, DL.ap_dNext, DL.ap_dSeq, DL.ap_dBreak, DL.ap_dCont, DL.ap_dDrop, DL.ap_dRet, DL.ap_dRetN, DL.ap_dIfS, DL.ap_dAsg, DL.ap_dPar, DL.ap_a3, DL.ap_dPar3, DL.ap_dAug, DL.ap_dAugS, DL.ap_dFor, DL.ap_gSet, DL.ap_gTup, DL.ap_gNil, DL.ap_gCons, DL.ap_gSub, DL.tr_non, DL.tr_bl, DL.tr_int, DL.tr_str, DL.tr_tup, DL.tr_ref, DL.ad_int, DL.ad_tup, DL.ad_ref, DL.sb_int, DL.mu_int, DL.mu_tup, DL.mu_ref, DL.fd_int, DL.md_int, DL.pw_int, DL.ng_int, DL.i2_int, DL.ci_int, DL.is_bl, DL.is_nn, DL.is_in, DL.is_tn, DL.is_rn, DL.is_sn, DL.ix_tup, DL.ix_ref, DL.ixl_ref, DL.sl_tup, DL.sl_lw, DL.sl_ref, DL.st_ref, DL.ap_append, DL.ap_extend, DL.ap_popI, DL.ap_pop0, DL.ty_ref, DL.ln_tup, DL.ln_ref, DL.ab_int, DL.in_int, DL.in_bl, DL.mn_int, DL.mx_int, DL.sm_of, DL.al_ref, DL.an_ref, DL.li_of, DL.tu_of, DL.so_ref, DL.rd_ref, DL.go_int, DL.go_str, DL.pa_int, DL.ka_int, DL.ka_str, DL.ap_dGetI, DL.ap_dInD, DL.ap_dGet1, DL.ap_dGet2, DL.ap_dDisp1, DL.ap_dPutS, DL.ap_dStar, DL.ap_dOr, DL.ap_dSortD, DL.ap_dMinD, DL.ap_dRevL, DL.ap_dMin3, DL.ap_dNever, DL.getV_0, DL.getV_s, DL.set_0, DL.set_s, DL.startD_nil, DL.startD_cons, DL.rep_0, DL.rep_s, DL.wipe_nil, DL.wipe_cons, DL.isB_bl, DL.isN_int, DL.someD_some, DL.at0, DL.at1, DL.at2, DL.at3, DL.at4, DL.at5, DL.up1_same, DL.up_up]
      exact ⟨a, c, _, rfl, hI.1, by omega, by omega, fun z S3 v0 v1 hb3 e3 => hY _ _ ⟨z, rfl, v0, by omega⟩ ⟨hb3, hI.2.1.trans e3, e3 _ _ nv hI.2.2⟩⟩
    · obtain ⟨ns, rfl, hns⟩ := all2_ints hys
      (intro p n3; generalize eS_ : up1 _ p _ = S3; have e3 := Ext.new_eq eS_ n3; have f3 := up_eq eS_; clear eS_)
      refine lstAt_of f3 ⟨line (show 2 ≤ 1000000 by decide), ?_⟩
      exact h vs ns S3 ⟨hl, by rw [← hns.length]; exact hl, hu, hp, fun n hn => hns.right (P := fun n => 0 ≤ n ∧ n ≤ cap) (fun _ _ h => h) n hn⟩ (hI.1.ext e3) (hI.2.1.trans e3.but)
  unfold d__law_coinage
  try simp only [DL.ap_dC, DL.ap_dVar, DL.ap_dNil, DL.ap_dCons, DL.ap_dTup, DL.ap_dLst, DL.ap_dOp, DL.ap_dB, DL.ap_dChain, DL.ap_dTru, DL.ap_dAndT, DL.ap_dOrT, DL.ap_dNotT, DL.ap_dAndV, DL.ap_dOrV, DL.ap_dNotV, DL.ap_dIf, DL.ap_dUn, DL.ap_dCall, DL.ap_dNoPart, DL.ap_dPart, DL.ap_dSl, DL.ap_dBM, DL.ap_dBM0, DL.ap_dFn, DL.ap_dLc, DL.ap_dYes, DL.ap_dRg1, DL.ap_dRg2, DL.ap_dLrg, DL.ap_dTrg, DL.ap_iAny, DL.ap_iRng1, DL.ap_iRng2, DL.ap_iRng3, DL.ap_rng1P, DL.ap_rng2P, DL.ap_rng3P, DL.ap_iZip, DL.ap_dLzip, DL.ap_dZ2, DL.ap_iEnm, DL.ap_a1, DL.ap_a2, DL.ap_sqT, DL.ap_sqR, DL.ap_dNext, DL.ap_dSeq, DL.ap_dBreak, DL.ap_dCont, DL.ap_dDrop, DL.ap_dRet, DL.ap_dRetN, DL.ap_dIfS, DL.ap_dAsg, DL.ap_dPar, DL.ap_a3, DL.ap_dPar3, DL.ap_dAug, DL.ap_dAugS, DL.ap_dFor, DL.ap_gSet, DL.ap_gTup, DL.ap_gNil, DL.ap_gCons, DL.ap_gSub, DL.tr_non, DL.tr_bl, DL.tr_int, DL.tr_str, DL.tr_tup, DL.tr_ref, DL.ad_int, DL.ad_tup, DL.ad_ref, DL.sb_int, DL.mu_int, DL.mu_tup, DL.mu_ref, DL.fd_int, DL.md_int, DL.pw_int, DL.ng_int, DL.i2_int, DL.ci_int, DL.is_bl, DL.is_nn, DL.is_in, DL.is_tn, DL.is_rn, DL.is_sn, DL.ix_tup, DL.ix_ref, DL.ixl_ref, DL.sl_tup, DL.sl_lw, DL.sl_ref, DL.st_ref, DL.ap_append, DL.ap_extend, DL.ap_popI, DL.ap_pop0, DL.ty_ref, DL.ln_tup, DL.ln_ref, DL.ab_int, DL.in_int, DL.in_bl, DL.mn_int, DL.mx_int, DL.sm_of, DL.al_ref, DL.an_ref, DL.li_of, DL.tu_of, DL.so_ref, DL.rd_ref, DL.go_int, DL.go_str, DL.pa_int, DL.ka_int, DL.ka_str, DL.ap_dGetI, DL.ap_dInD, DL.ap_dGet1, DL.ap_dGet2, DL.ap_dDisp1, DL.ap_dPutS, DL.ap_dStar, DL.ap_dOr, DL.ap_dSortD, DL.ap_dMinD, DL.ap_dRevL, DL.ap_dMin3, DL.ap_dNever, DL.getV_0, DL.getV_s, DL.set_0, DL.set_s, DL.startD_nil, DL.startD_cons, DL.rep_0, DL.rep_s, DL.wipe_nil, DL.wipe_cons, DL.isB_bl, DL.isN_int, DL.someD_some, DL.at0, DL.at1, DL.at2, DL.at3, DL.at4, DL.at5, DL.up1_same, DL.up_up]
  refine ⟨line (show 4 ≤ 1000000 by decide), ?_⟩
  (intro p1 n1; generalize eS_ : up1 _ p1 _ = S1; have e1 := Ext.new_eq eS_ n1; have f1 := up_eq eS_; clear eS_)
  refine ⟨line (show 4 ≤ 1000000 by decide), ?_⟩
  (intro p2 n2; generalize eS_ : up1 _ p2 _ = S2; have e2 := Ext.new_eq eS_ n2; have f2 := up_eq eS_; clear eS_)
  refine ⟨line (show 3 ≤ 1000000 by decide), ?_⟩
  (intro p3 n3; generalize eS_ : up1 _ p3 _ = S3; have e3 := Ext.new_eq eS_ n3; have f3 := up_eq eS_; clear eS_)
  refine ⟨line (show 3 ≤ 1000000 by decide), ?_⟩
  (intro p4 n4; generalize eS_ : up1 _ p4 _ = S4; have e4 := Ext.new_eq eS_ n4; have f4 := up_eq eS_; clear eS_)
  refine ⟨line (show 4 ≤ 1000000 by decide), ?_⟩
  (intro p5 n5; generalize eS_ : up1 _ p5 _ = S5; have e5 := Ext.new_eq eS_ n5; have f5 := up_eq eS_; clear eS_)
  refine ⟨line (show 4 ≤ 1000000 by decide), ?_⟩
  (intro p6 n6; generalize eS_ : up1 _ p6 _ = S6; have e6 := Ext.new_eq eS_ n6; have f6 := up_eq eS_; clear eS_)
  refine ⟨line (show 6 ≤ 1000000 by decide), ?_⟩
  (intro p7 n7; generalize eS_ : up1 _ p7 _ = S7; have e7 := Ext.new_eq eS_ n7; have f7 := up_eq eS_; clear eS_)
  have e37 := ((e4.trans e5).trans e6).trans e7
  have e07 := ((e1.trans e2).trans e3).trans e37
  have hb7 := hb.ext e07
  have k1 : S1 p1 = some (.lst ([1, 2, 5, 10].map D.int)) := f1
  have k2 : S2 p2 = some (.lst ([5, 10, 25, 100].map D.int)) := f2
  have k3 : S3 p3 = some (.lst ([1, 3, 4].map D.int)) := f3
  have k4 : S4 p4 = some (.lst ([2, 3, 7].map D.int)) := f4
  have k5 : S5 p5 = some (.lst ([1, 5, 10, 50].map D.int)) := f5
  have k6 : S6 p6 = some (.lst ([3, 6, 12, 24].map D.int)) := f6
  have all : ∀ d ∈ [D.ref p1, .ref p2, .ref p3, .ref p4, .ref p5, .ref p6], ∃ (u : Addr) (us : List Int), d = .ref u ∧ S7 u = some (.lst (us.map D.int)) ∧ u ≠ a ∧ us ∈ ([[1, 2, 5, 10], [5, 10, 25, 100], [1, 3, 4], [2, 3, 7], [1, 5, 10, 50], [3, 6, 12, 24]] : List (List Int)) := by
    intro d hd
    simp only [List.mem_cons, List.not_mem_nil, or_false] at hd
    rcases hd with rfl | rfl | rfl | rfl | rfl | rfl
    · exact ⟨p1, _, rfl, e37 _ _ (e3 _ _ (e2 _ _ k1)), (hb.ne n1).1, by simp⟩
    · exact ⟨p2, _, rfl, e37 _ _ (e3 _ _ k2), ((hb.ext e1).ne n2).1, by simp⟩
    · exact ⟨p3, _, rfl, e37 _ _ k3, (((hb.ext e1).ext e2).ne n3).1, by simp⟩
    · exact ⟨p4, _, rfl, e7 _ _ (e6 _ _ (e5 _ _ k4)), ((((hb.ext e1).ext e2).ext e3).ne n4).1, by simp⟩
    · exact ⟨p5, _, rfl, e7 _ _ (e6 _ _ k5), (((((hb.ext e1).ext e2).ext e3).ext e4).ne n5).1, by simp⟩
    · exact ⟨p6, _, rfl, e7 _ _ k6, ((((((hb.ext e1).ext e2).ext e3).ext e4).ext e5).ne n6).1, by simp⟩
  have n7a : p7 ≠ a := (((((((hb.ext e1).ext e2).ext e3).ext e4).ext e5).ext e6).ne n7).1
  refine ⟨a, c, _, _, rfl, hb7, .inr ⟨p7, rfl, f7, n7a⟩, by simp, by simp, fun d S8 hd hb8 e8 => ?_⟩
  obtain ⟨u, us, rfl, hu, nu, hus⟩ := all d hd
  obtain ⟨hnd, hin, hul⟩ := usual_all us hus
  have hu8 : S8 u = some (.lst (us.map D.int)) := e8 _ _ nu hu
  have E8 : ExtB a S S8 := e07.but.trans e8
  try simp only [DL.ap_dC, DL.ap_dVar, DL.ap_dNil, DL.ap_dCons, DL.ap_dTup, DL.ap_dLst, DL.ap_dOp, DL.ap_dB, DL.ap_dChain, DL.ap_dTru, DL.ap_dAndT, DL.ap_dOrT, DL.ap_dNotT, DL.ap_dAndV, DL.ap_dOrV, DL.ap_dNotV, DL.ap_dIf, DL.ap_dUn, DL.ap_dCall, DL.ap_dNoPart, DL.ap_dPart, DL.ap_dSl, DL.ap_dBM, DL.ap_dBM0, DL.ap_dFn, DL.ap_dLc, DL.ap_dYes, DL.ap_dRg1, DL.ap_dRg2, DL.ap_dLrg, DL.ap_dTrg, DL.ap_iAny, DL.ap_iRng1, DL.ap_iRng2, DL.ap_iRng3, DL.ap_rng1P, DL.ap_rng2P, DL.ap_rng3P, DL.ap_iZip, DL.ap_dLzip, DL.ap_dZ2, DL.ap_iEnm, DL.ap_a1, DL.ap_a2, DL.ap_sqT, DL.ap_sqR, DL.ap_dNext, DL.ap_dSeq, DL.ap_dBreak, DL.ap_dCont, DL.ap_dDrop, DL.ap_dRet, DL.ap_dRetN, DL.ap_dIfS, DL.ap_dAsg, DL.ap_dPar, DL.ap_a3, DL.ap_dPar3, DL.ap_dAug, DL.ap_dAugS, DL.ap_dFor, DL.ap_gSet, DL.ap_gTup, DL.ap_gNil, DL.ap_gCons, DL.ap_gSub, DL.tr_non, DL.tr_bl, DL.tr_int, DL.tr_str, DL.tr_tup, DL.tr_ref, DL.ad_int, DL.ad_tup, DL.ad_ref, DL.sb_int, DL.mu_int, DL.mu_tup, DL.mu_ref, DL.fd_int, DL.md_int, DL.pw_int, DL.ng_int, DL.i2_int, DL.ci_int, DL.is_bl, DL.is_nn, DL.is_in, DL.is_tn, DL.is_rn, DL.is_sn, DL.ix_tup, DL.ix_ref, DL.ixl_ref, DL.sl_tup, DL.sl_lw, DL.sl_ref, DL.st_ref, DL.ap_append, DL.ap_extend, DL.ap_popI, DL.ap_pop0, DL.ty_ref, DL.ln_tup, DL.ln_ref, DL.ab_int, DL.in_int, DL.in_bl, DL.mn_int, DL.mx_int, DL.sm_of, DL.al_ref, DL.an_ref, DL.li_of, DL.tu_of, DL.so_ref, DL.rd_ref, DL.go_int, DL.go_str, DL.pa_int, DL.ka_int, DL.ka_str, DL.ap_dGetI, DL.ap_dInD, DL.ap_dGet1, DL.ap_dGet2, DL.ap_dDisp1, DL.ap_dPutS, DL.ap_dStar, DL.ap_dOr, DL.ap_dSortD, DL.ap_dMinD, DL.ap_dRevL, DL.ap_dMin3, DL.ap_dNever, DL.getV_0, DL.getV_s, DL.set_0, DL.set_s, DL.startD_nil, DL.startD_cons, DL.rep_0, DL.rep_s, DL.wipe_nil, DL.wipe_cons, DL.isB_bl, DL.isN_int, DL.someD_some, DL.at0, DL.at1, DL.at2, DL.at3, DL.at4, DL.at5, DL.up1_same, DL.up_up]
  unfold d__law_coinage_3
  try simp only [DL.ap_dC, DL.ap_dVar, DL.ap_dNil, DL.ap_dCons, DL.ap_dTup, DL.ap_dLst, DL.ap_dOp, DL.ap_dB, DL.ap_dChain, DL.ap_dTru, DL.ap_dAndT, DL.ap_dOrT, DL.ap_dNotT, DL.ap_dAndV, DL.ap_dOrV, DL.ap_dNotV, DL.ap_dIf, DL.ap_dUn, DL.ap_dCall, DL.ap_dNoPart, DL.ap_dPart, DL.ap_dSl, DL.ap_dBM, DL.ap_dBM0, DL.ap_dFn, DL.ap_dLc, DL.ap_dYes, DL.ap_dRg1, DL.ap_dRg2, DL.ap_dLrg, DL.ap_dTrg, DL.ap_iAny, DL.ap_iRng1, DL.ap_iRng2, DL.ap_iRng3, DL.ap_rng1P, DL.ap_rng2P, DL.ap_rng3P, DL.ap_iZip, DL.ap_dLzip, DL.ap_dZ2, DL.ap_iEnm, DL.ap_a1, DL.ap_a2, DL.ap_sqT, DL.ap_sqR, DL.ap_dNext, DL.ap_dSeq, DL.ap_dBreak, DL.ap_dCont, DL.ap_dDrop, DL.ap_dRet, DL.ap_dRetN, DL.ap_dIfS, DL.ap_dAsg, DL.ap_dPar, DL.ap_a3, DL.ap_dPar3, DL.ap_dAug, DL.ap_dAugS, DL.ap_dFor, DL.ap_gSet, DL.ap_gTup, DL.ap_gNil, DL.ap_gCons, DL.ap_gSub, DL.tr_non, DL.tr_bl, DL.tr_int, DL.tr_str, DL.tr_tup, DL.tr_ref, DL.ad_int, DL.ad_tup, DL.ad_ref, DL.sb_int, DL.mu_int, DL.mu_tup, DL.mu_ref, DL.fd_int, DL.md_int, DL.pw_int, DL.ng_int, DL.i2_int, DL.ci_int, DL.is_bl, DL.is_nn, DL.is_in, DL.is_tn, DL.is_rn, DL.is_sn, DL.ix_tup, DL.ix_ref, DL.ixl_ref, DL.sl_tup, DL.sl_lw, DL.sl_ref, DL.st_ref, DL.ap_append, DL.ap_extend, DL.ap_popI, DL.ap_pop0, DL.ty_ref, DL.ln_tup, DL.ln_ref, DL.ab_int, DL.in_int, DL.in_bl, DL.mn_int, DL.mx_int, DL.sm_of, DL.al_ref, DL.an_ref, DL.li_of, DL.tu_of, DL.so_ref, DL.rd_ref, DL.go_int, DL.go_str, DL.pa_int, DL.ka_int, DL.ka_str, DL.ap_dGetI, DL.ap_dInD, DL.ap_dGet1, DL.ap_dGet2, DL.ap_dDisp1, DL.ap_dPutS, DL.ap_dStar, DL.ap_dOr, DL.ap_dSortD, DL.ap_dMinD, DL.ap_dRevL, DL.ap_dMin3, DL.ap_dNever, DL.getV_0, DL.getV_s, DL.set_0, DL.set_s, DL.startD_nil, DL.startD_cons, DL.rep_0, DL.rep_s, DL.wipe_nil, DL.wipe_cons, DL.isB_bl, DL.isN_int, DL.someD_some, DL.at0, DL.at1, DL.at2, DL.at3, DL.at4, DL.at5, DL.up1_same, DL.up_up]
  refine lstAt_of hu8 ?_
  rw [cut_ints]
  (intro q n9; generalize eS_ : up1 _ q _ = S9; have e9 := Ext.new_eq eS_ n9; have f9 := up_eq eS_; clear eS_)
  refine ⟨_, f9, fun vs r hvp hvs => ?_⟩
  intro n10
  generalize eS_ : up1 S9 r _ = S10
  have e10 := Ext.new_eq eS_ n10
  have f10 := up_eq eS_
  clear eS_
  have hb10 := (hb8.ext e9).ext e10
  have nr := ((hb8.ext e9).ne n10).1
  have E10 := E8.trans (e9.trans e10).but
  have hvl := hvp.length_eq
  rw [List.length_take] at hvl
  have hvin : ∀ z ∈ vs, 1 ≤ z ∧ (z ≤ 100 ∨ z ≤ g) := fun z hz => by
    have := hin z (List.mem_of_mem_take (hvp.mem_iff.mp hz))
    omega
  have hvu : vs.Pairwise (· < ·) := lt_sorted hvp (hnd.sublist (List.take_sublist _ _)) hvs
  unfold d__law_coinage_2
  try simp only [DL.ap_dC, DL.ap_dVar, DL.ap_dNil, DL.ap_dCons, DL.ap_dTup, DL.ap_dLst, DL.ap_dOp, DL.ap_dB, DL.ap_dChain, DL.ap_dTru, DL.ap_dAndT, DL.ap_dOrT, DL.ap_dNotT, DL.ap_dAndV, DL.ap_dOrV, DL.ap_dNotV, DL.ap_dIf, DL.ap_dUn, DL.ap_dCall, DL.ap_dNoPart, DL.ap_dPart, DL.ap_dSl, DL.ap_dBM, DL.ap_dBM0, DL.ap_dFn, DL.ap_dLc, DL.ap_dYes, DL.ap_dRg1, DL.ap_dRg2, DL.ap_dLrg, DL.ap_dTrg, DL.ap_iAny, DL.ap_iRng1, DL.ap_iRng2, DL.ap_iRng3, DL.ap_rng1P, DL.ap_rng2P, DL.ap_rng3P, DL.ap_iZip, DL.ap_dLzip, DL.ap_dZ2, DL.ap_iEnm, DL.ap_a1, DL.ap_a2, DL.ap_sqT, DL.ap_sqR, DL.ap_dNext, DL.ap_dSeq, DL.ap_dBreak, DL.ap_dCont, DL.ap_dDrop, DL.ap_dRet, DL.ap_dRetN, DL.ap_dIfS, DL.ap_dAsg, DL.ap_dPar, DL.ap_a3, DL.ap_dPar3, DL.ap_dAug, DL.ap_dAugS, DL.ap_dFor, DL.ap_gSet, DL.ap_gTup, DL.ap_gNil, DL.ap_gCons, DL.ap_gSub, DL.tr_non, DL.tr_bl, DL.tr_int, DL.tr_str, DL.tr_tup, DL.tr_ref, DL.ad_int, DL.ad_tup, DL.ad_ref, DL.sb_int, DL.mu_int, DL.mu_tup, DL.mu_ref, DL.fd_int, DL.md_int, DL.pw_int, DL.ng_int, DL.i2_int, DL.ci_int, DL.is_bl, DL.is_nn, DL.is_in, DL.is_tn, DL.is_rn, DL.is_sn, DL.ix_tup, DL.ix_ref, DL.ixl_ref, DL.sl_tup, DL.sl_lw, DL.sl_ref, DL.st_ref, DL.ap_append, DL.ap_extend, DL.ap_popI, DL.ap_pop0, DL.ty_ref, DL.ln_tup, DL.ln_ref, DL.ab_int, DL.in_int, DL.in_bl, DL.mn_int, DL.mx_int, DL.sm_of, DL.al_ref, DL.an_ref, DL.li_of, DL.tu_of, DL.so_ref, DL.rd_ref, DL.go_int, DL.go_str, DL.pa_int, DL.ka_int, DL.ka_str, DL.ap_dGetI, DL.ap_dInD, DL.ap_dGet1, DL.ap_dGet2, DL.ap_dDisp1, DL.ap_dPutS, DL.ap_dStar, DL.ap_dOr, DL.ap_dSortD, DL.ap_dMinD, DL.ap_dRevL, DL.ap_dMin3, DL.ap_dNever, DL.getV_0, DL.getV_s, DL.set_0, DL.set_s, DL.startD_nil, DL.startD_cons, DL.rep_0, DL.rep_s, DL.wipe_nil, DL.wipe_cons, DL.isB_bl, DL.isN_int, DL.someD_some, DL.at0, DL.at1, DL.at2, DL.at3, DL.at4, DL.at5, DL.up1_same, DL.up_up]
  refine ⟨a, c, _, rfl, hb10, by decide, by decide, fun z S11 _ _ hb11 e11 => ?_⟩
  have f11 : S11 r = some (.lst (vs.map D.int)) := e11 _ _ nr f10
  have E11 := E10.trans e11
  -- drawn out of all up to the greatest
  have other : ∀ o4, (RgOk 1 (g + 1) ∧ ∀ p, S11 p = none → sp__law_mixed [.ref a, .ref p] (up1 S11 p (.lst (rngD 1 (g + 1 - 1).toNat))) (fun x S1 => dSlc x none (some (k : Int)) S1 fun x S1 => dSortI [x] S1 fun x S1 => d__law_coinage_1 EP { nx := fun _ S' => Q .non S', rt := Q } [some (.ref a), some (.int (k : Nat)), some (.int g), some (.int cap), o4, some x, none] S1) fun e S2 => EP e S2) := by
    intro o4
    refine ⟨RgOk.of_le (by decide) (by omega) (by decide) (by omega), ?_⟩
    (intro p n12; generalize eS_ : up1 _ p _ = S12; have e12 := Ext.new_eq eS_ n12; have f12 := up_eq eS_; clear eS_)
    rw [rng_ints] at f12
    have hl12 : ((List.range g.toNat).map fun i : Nat => (1 : Int) + i).length = g.toNat := by simp
    refine ⟨a, c, _, _, rfl, hb11.ext e12, .inr ⟨p, rfl, f12, (hb11.ne n12).1⟩, isDs_ints _ _, by rw [List.length_map, hl12]; omega, fun y ys S13 hys hb13 e13 n13 f13 => ?_⟩
    obtain ⟨ms, rfl, hms⟩ := perm_ints hys
    try simp only [DL.ap_dC, DL.ap_dVar, DL.ap_dNil, DL.ap_dCons, DL.ap_dTup, DL.ap_dLst, DL.ap_dOp, DL.ap_dB, DL.ap_dChain, DL.ap_dTru, DL.ap_dAndT, DL.ap_dOrT, DL.ap_dNotT, DL.ap_dAndV, DL.ap_dOrV, DL.ap_dNotV, DL.ap_dIf, DL.ap_dUn, DL.ap_dCall, DL.ap_dNoPart, DL.ap_dPart, DL.ap_dSl, DL.ap_dBM, DL.ap_dBM0, DL.ap_dFn, DL.ap_dLc, DL.ap_dYes, DL.ap_dRg1, DL.ap_dRg2, DL.ap_dLrg, DL.ap_dTrg, DL.ap_iAny, DL.ap_iRng1, DL.ap_iRng2, DL.ap_iRng3, DL.ap_rng1P, DL.ap_rng2P, DL.ap_rng3P, DL.ap_iZip, DL.ap_dLzip, DL.ap_dZ2, DL.ap_iEnm, DL.ap_a1, DL.ap_a2, DL.ap_sqT, DL.ap_sqR, DL.ap_dNext, DL.ap_dSeq, DL.ap_dBreak, DL.ap_dCont, DL.ap_dDrop, DL.ap_dRet, DL.ap_dRetN, DL.ap_dIfS, DL.ap_dAsg, DL.ap_dPar, DL.ap_a3, DL.ap_dPar3, DL.ap_dAug, DL.ap_dAugS, DL.ap_dFor, DL.ap_gSet, DL.ap_gTup, DL.ap_gNil, DL.ap_gCons, DL.ap_gSub, DL.tr_non, DL.tr_bl, DL.tr_int, DL.tr_str, DL.tr_tup, DL.tr_ref, DL.ad_int, DL.ad_tup, DL.ad_ref, DL.sb_int, DL.mu_int, DL.mu_tup, DL.mu_ref, DL.fd_int, DL.md_int, DL.pw_int, DL.ng_int, DL.i2_int, DL.ci_int, DL.is_bl, DL.is_nn, DL.is_in, DL.is_tn, DL.is_rn, DL.is_sn, DL.ix_tup, DL.ix_ref, DL.ixl_ref, DL.sl_tup, DL.sl_lw, DL.sl_ref, DL.st_ref, DL.ap_append, DL.ap_extend, DL.ap_popI, DL.ap_pop0, DL.ty_ref, DL.ln_tup, DL.ln_ref, DL.ab_int, DL.in_int, DL.in_bl, DL.mn_int, DL.mx_int, DL.sm_of, DL.al_ref, DL.an_ref, DL.li_of, DL.tu_of, DL.so_ref, DL.rd_ref, DL.go_int, DL.go_str, DL.pa_int, DL.ka_int, DL.ka_str, DL.ap_dGetI, DL.ap_dInD, DL.ap_dGet1, DL.ap_dGet2, DL.ap_dDisp1, DL.ap_dPutS, DL.ap_dStar, DL.ap_dOr, DL.ap_dSortD, DL.ap_dMinD, DL.ap_dRevL, DL.ap_dMin3, DL.ap_dNever, DL.getV_0, DL.getV_s, DL.set_0, DL.set_s, DL.startD_nil, DL.startD_cons, DL.rep_0, DL.rep_s, DL.wipe_nil, DL.wipe_cons, DL.isB_bl, DL.isN_int, DL.someD_some, DL.at0, DL.at1, DL.at2, DL.at3, DL.at4, DL.at5, DL.up1_same, DL.up_up]
    refine lstAt_of f13 ?_
    rw [cut_ints]
    (intro q2 n14; generalize eS_ : up1 _ q2 _ = S14; have e14 := Ext.new_eq eS_ n14; have f14 := up_eq eS_; clear eS_)
    refine ⟨_, f14, fun ws r2 hwp hws => ?_⟩
    intro n15
    generalize eS_ : up1 S14 r2 _ = S15
    have e15 := Ext.new_eq eS_ n15
    have f15 := up_eq eS_
    clear eS_
    have hml := hms.length_eq
    rw [hl12] at hml
    have hwl := hwp.length_eq
    rw [List.length_take] at hwl
    have hmn : ms.Nodup := hms.symm.nodup rng_nodup
    refine fin o4 r2 ws S15 f15 (((hb13.ext e14).ne n15).1) (by omega) (lt_sorted hwp (hmn.sublist (List.take_sublist _ _)) hws) (fun z hz => ?_) ((hb13.ext e14).ext e15) ((E11.trans e12.but).trans (e13.trans (e14.trans e15).but))
    obtain ⟨i, hi, rfl⟩ := List.mem_map.mp (hms.mem_iff.mp (List.mem_of_mem_take (hwp.mem_iff.mp hz)))
    have := List.mem_range.mp hi
    omega
  refine eq_ints ?_
  try simp only [DL.ap_dC, DL.ap_dVar, DL.ap_dNil, DL.ap_dCons, DL.ap_dTup, DL.ap_dLst, DL.ap_dOp, DL.ap_dB, DL.ap_dChain, DL.ap_dTru, DL.ap_dAndT, DL.ap_dOrT, DL.ap_dNotT, DL.ap_dAndV, DL.ap_dOrV, DL.ap_dNotV, DL.ap_dIf, DL.ap_dUn, DL.ap_dCall, DL.ap_dNoPart, DL.ap_dPart, DL.ap_dSl, DL.ap_dBM, DL.ap_dBM0, DL.ap_dFn, DL.ap_dLc, DL.ap_dYes, DL.ap_dRg1, DL.ap_dRg2, DL.ap_dLrg, DL.ap_dTrg, DL.ap_iAny, DL.ap_iRng1, DL.ap_iRng2, DL.ap_iRng3, DL.ap_rng1P, DL.ap_rng2P, DL.ap_rng3P, DL.ap_iZip, DL.ap_dLzip, DL.ap_dZ2, DL.ap_iEnm, DL.ap_a1, DL.ap_a2, DL.ap_sqT, DL.ap_sqR, DL.ap_dNext, DL.ap_dSeq, DL.ap_dBreak, DL.ap_dCont, DL.ap_dDrop, DL.ap_dRet, DL.ap_dRetN, DL.ap_dIfS, DL.ap_dAsg, DL.ap_dPar, DL.ap_a3, DL.ap_dPar3, DL.ap_dAug, DL.ap_dAugS, DL.ap_dFor, DL.ap_gSet, DL.ap_gTup, DL.ap_gNil, DL.ap_gCons, DL.ap_gSub, DL.tr_non, DL.tr_bl, DL.tr_int, DL.tr_str, DL.tr_tup, DL.tr_ref, DL.ad_int, DL.ad_tup, DL.ad_ref, DL.sb_int, DL.mu_int, DL.mu_tup, DL.mu_ref, DL.fd_int, DL.md_int, DL.pw_int, DL.ng_int, DL.i2_int, DL.ci_int, DL.is_bl, DL.is_nn, DL.is_in, DL.is_tn, DL.is_rn, DL.is_sn, DL.ix_tup, DL.ix_ref, DL.ixl_ref, DL.sl_tup, DL.sl_lw, DL.sl_ref, DL.st_ref, DL.ap_append, DL.ap_extend, DL.ap_popI, DL.ap_pop0, DL.ty_ref, DL.ln_tup, DL.ln_ref, DL.ab_int, DL.in_int, DL.in_bl, DL.mn_int, DL.mx_int, DL.sm_of, DL.al_ref, DL.an_ref, DL.li_of, DL.tu_of, DL.so_ref, DL.rd_ref, DL.go_int, DL.go_str, DL.pa_int, DL.ka_int, DL.ka_str, DL.ap_dGetI, DL.ap_dInD, DL.ap_dGet1, DL.ap_dGet2, DL.ap_dDisp1, DL.ap_dPutS, DL.ap_dStar, DL.ap_dOr, DL.ap_dSortD, DL.ap_dMinD, DL.ap_dRevL, DL.ap_dMin3, DL.ap_dNever, DL.getV_0, DL.getV_s, DL.set_0, DL.set_s, DL.startD_nil, DL.startD_cons, DL.rep_0, DL.rep_s, DL.wipe_nil, DL.wipe_cons, DL.isB_bl, DL.isN_int, DL.someD_some, DL.at0, DL.at1, DL.at2, DL.at3, DL.at4, DL.at5, DL.up1_same, DL.up_up]
  by_cases hz : z = 0
  · rw [if_pos (decide_eq_true hz)]
    rw [if_pos trivial]
    exact other _
  · rw [if_neg (by simpa using hz)]
    refine lstAt_of f11 ?_
    try simp only [DL.ap_dC, DL.ap_dVar, DL.ap_dNil, DL.ap_dCons, DL.ap_dTup, DL.ap_dLst, DL.ap_dOp, DL.ap_dB, DL.ap_dChain, DL.ap_dTru, DL.ap_dAndT, DL.ap_dOrT, DL.ap_dNotT, DL.ap_dAndV, DL.ap_dOrV, DL.ap_dNotV, DL.ap_dIf, DL.ap_dUn, DL.ap_dCall, DL.ap_dNoPart, DL.ap_dPart, DL.ap_dSl, DL.ap_dBM, DL.ap_dBM0, DL.ap_dFn, DL.ap_dLc, DL.ap_dYes, DL.ap_dRg1, DL.ap_dRg2, DL.ap_dLrg, DL.ap_dTrg, DL.ap_iAny, DL.ap_iRng1, DL.ap_iRng2, DL.ap_iRng3, DL.ap_rng1P, DL.ap_rng2P, DL.ap_rng3P, DL.ap_iZip, DL.ap_dLzip, DL.ap_dZ2, DL.ap_iEnm, DL.ap_a1, DL.ap_a2, DL.ap_sqT, DL.ap_sqR, DL.ap_dNext, DL.ap_dSeq, DL.ap_dBreak, DL.ap_dCont, DL.ap_dDrop, DL.ap_dRet, DL.ap_dRetN, DL.ap_dIfS, DL.ap_dAsg, DL.ap_dPar, DL.ap_a3, DL.ap_dPar3, DL.ap_dAug, DL.ap_dAugS, DL.ap_dFor, DL.ap_gSet, DL.ap_gTup, DL.ap_gNil, DL.ap_gCons, DL.ap_gSub, DL.tr_non, DL.tr_bl, DL.tr_int, DL.tr_str, DL.tr_tup, DL.tr_ref, DL.ad_int, DL.ad_tup, DL.ad_ref, DL.sb_int, DL.mu_int, DL.mu_tup, DL.mu_ref, DL.fd_int, DL.md_int, DL.pw_int, DL.ng_int, DL.i2_int, DL.ci_int, DL.is_bl, DL.is_nn, DL.is_in, DL.is_tn, DL.is_rn, DL.is_sn, DL.ix_tup, DL.ix_ref, DL.ixl_ref, DL.sl_tup, DL.sl_lw, DL.sl_ref, DL.st_ref, DL.ap_append, DL.ap_extend, DL.ap_popI, DL.ap_pop0, DL.ty_ref, DL.ln_tup, DL.ln_ref, DL.ab_int, DL.in_int, DL.in_bl, DL.mn_int, DL.mx_int, DL.sm_of, DL.al_ref, DL.an_ref, DL.li_of, DL.tu_of, DL.so_ref, DL.rd_ref, DL.go_int, DL.go_str, DL.pa_int, DL.ka_int, DL.ka_str, DL.ap_dGetI, DL.ap_dInD, DL.ap_dGet1, DL.ap_dGet2, DL.ap_dDisp1, DL.ap_dPutS, DL.ap_dStar, DL.ap_dOr, DL.ap_dSortD, DL.ap_dMinD, DL.ap_dRevL, DL.ap_dMin3, DL.ap_dNever, DL.getV_0, DL.getV_s, DL.set_0, DL.set_s, DL.startD_nil, DL.startD_cons, DL.rep_0, DL.rep_s, DL.wipe_nil, DL.wipe_cons, DL.isB_bl, DL.isN_int, DL.someD_some, DL.at0, DL.at1, DL.at2, DL.at3, DL.at4, DL.at5, DL.up1_same, DL.up_up]
    by_cases hlt : vs.length < k
    · rw [if_pos (by simp; omega)]
      exact other _
    · rw [if_neg (by simp; omega)]
      exact fin _ r vs S11 f11 nr (by omega) hvu hvin hb11 E11
end Cc
set_option Elab.async false
set_option linter.all false
set_option maxRecDepth 100000
set_option maxHeartbeats 4000000
namespace Wa
def ways : List Int → List Int → Int → List (List Int)
  | v :: vs, m :: ms, a => (List.range (m.toNat + 1)).flatMap fun k => (ways vs ms (a - v * (k : Nat))).map fun r => ((k : Nat) : Int) :: r
  | _, _, a => if a = 0 then [[]] else []
def Fits : List Int → List Int → Prop
  | [], [] => True
  | k :: ks, m :: ms => 0 ≤ k ∧ k ≤ m ∧ Fits ks ms
  | _, _ => False
theorem Fits.len : ∀ {ks ms : List Int}, Fits ks ms → ks.length = ms.length
  | [], [], _ => rfl
  | _ :: _, _ :: _, h => congrArg (· + 1) (Fits.len h.2.2)
  | [], _ :: _, h => h.elim
  | _ :: _, [], h => h.elim
theorem Fits.nonneg : ∀ {ks ms : List Int}, Fits ks ms → ∀ k ∈ ks, 0 ≤ k
  | [], [], _, _, h => by cases h
  | k :: ks, m :: ms, h, x, hx => by
    rcases List.mem_cons.mp hx with e | hx
    · subst e; exact h.1
    · exact Fits.nonneg h.2.2 x hx
  | [], _ :: _, h, _, _ => h.elim
  | _ :: _, [], h, _, _ => h.elim
def grow (v m : Int) (L : List (List Int × Int)) : List (List Int × Int) :=
  L.flatMap fun p => ((List.range (m.toNat + 1)).filter fun k => decide (((k : Nat) : Int) * v ≤ p.2)).map fun k => (p.1 ++ [((k : Nat) : Int)], p.2 - ((k : Nat) : Int) * v)
def grown : List (Int × Int) → List (List Int × Int) → List (List Int × Int)
  | [], L => L
  | p :: r, L => grown r (grow p.1 p.2 L)
end Wa
set_option Elab.async false
set_option linter.all false
set_option maxRecDepth 100000
set_option maxHeartbeats 4000000
namespace Wb
open PySem DL L2 Wa
theorem sum_add {α : Type} (f g : α → Nat) : ∀ l : List α, (l.map fun x => f x + g x).sum = (l.map f).sum + (l.map g).sum
  | [] => rfl
  | x :: l => by
    have := sum_add f g l
    simp only [List.map_cons, List.sum_cons]
    omega
theorem sum_zero {α : Type} : ∀ l : List α, (l.map fun _ => 0).sum = 0
  | [] => rfl
  | _ :: l => by simp only [List.map_cons, List.sum_cons, sum_zero l]
def tab (v : Int) (x : Int) (n K : Nat) (y : Int) : Nat := ((List.range K).map fun k => if x + ((k : Nat) : Int) * v = y then n else 0).sum
def encI (p : Int × Nat) : L2.Key × D := (.inl p.1, .int (p.2 : Int))
structure Tab (A : Int) (its : List (Int × Nat)) : Prop where
  nd : (its.map (·.1)).Nodup
  in_ : ∀ p ∈ its, 0 < p.2 ∧ 0 ≤ p.1 ∧ p.1 ≤ A
def add1 (its : List (Int × Nat)) (x : Int) (n : Nat) : List (Int × Nat) :=
  if x ∈ its.map (·.1) then its.map fun p => if p.1 = x then (p.1, p.2 + n) else p else its ++ [(x, n)]
theorem keys_add1 (its : List (Int × Nat)) (x : Int) (n : Nat) : (add1 its x n).map (·.1) = if x ∈ its.map (·.1) then its.map (·.1) else its.map (·.1) ++ [x] := by
  unfold add1
  by_cases h : x ∈ its.map (·.1)
  · rw [if_pos h, if_pos h, List.map_map]
    refine List.map_congr_left fun p _ => ?_
    show (if p.1 = x then (p.1, p.2 + n) else p).1 = p.1
    split <;> rfl
  · rw [if_neg h, if_neg h, List.map_append]; rfl
theorem Tab.nil {A : Int} : Tab A [] := ⟨List.nodup_nil, fun _ h => by cases h⟩
theorem Tab.add {A : Int} {its : List (Int × Nat)} (T : Tab A its) {x : Int} {n : Nat} (h0 : 0 ≤ x) (hA : x ≤ A) (hn : 0 < n) : Tab A (add1 its x n) := by
  refine ⟨?_, fun p hp => ?_⟩
  · rw [keys_add1]
    split
    · exact T.nd
    · rename_i h
      exact List.nodup_append.mpr ⟨T.nd, List.nodup_cons.mpr ⟨List.not_mem_nil, List.nodup_nil⟩, fun a ha b hb e => by
        rw [List.mem_singleton.mp hb] at e
        exact h (e ▸ ha)⟩
  · unfold add1 at hp
    split at hp
    · obtain ⟨q, hq, e⟩ := List.mem_map.mp hp
      have := T.in_ q hq
      subst e
      split
      · exact ⟨Nat.lt_of_lt_of_le this.1 (Nat.le_add_right _ _), this.2⟩
      · exact this
    · rcases List.mem_append.mp hp with hp | hp
      · exact T.in_ p hp
      · rw [List.mem_singleton.mp hp]
        exact ⟨hn, h0, hA⟩
theorem nodup_le : ∀ (A : Nat) (l : List Int), l.Nodup → (∀ x ∈ l, 0 ≤ x ∧ x < A) → l.length ≤ A
  | 0, l, _, h => by
    cases l with
    | nil => exact Nat.le_refl 0
    | cons x r => have := h x List.mem_cons_self; omega
  | A + 1, l, nd, h => by
    have h1 := nodup_le A (l.filter fun x => decide (x ≠ (A : Int))) (nd.filter _) fun x hx => by
      have := List.mem_filter.mp hx
      have h2 := h x this.1
      have h3 : x ≠ (A : Int) := by simpa using this.2
      omega
    have h2 : l.length ≤ (l.filter fun x => decide (x ≠ (A : Int))).length + 1 := by
      clear h1 h
      induction l with
      | nil => exact Nat.zero_le _
      | cons x r ih =>
        rw [List.nodup_cons] at nd
        by_cases e : x = (A : Int)
        · have hr : (r.filter fun x => decide (x ≠ (A : Int))) = r := List.filter_eq_self.mpr fun y hy => by
            simp only [decide_eq_true_eq]
            intro z
            exact nd.1 (by rw [e, ← z]; exact hy)
          rw [List.filter_cons, if_neg (by simp [e]), hr, List.length_cons]
          omega
        · rw [List.filter_cons, if_pos (by simpa using e), List.length_cons, List.length_cons]
          have := ih nd.2
          omega
    omega
theorem Tab.len {A : Int} (hA : 0 ≤ A) {its : List (Int × Nat)} (T : Tab A its) : its.length ≤ A.toNat + 1 := by
  have := nodup_le (A.toNat + 1) (its.map (·.1)) T.nd fun x hx => by
    obtain ⟨p, hp, rfl⟩ := List.mem_map.mp hx
    have := T.in_ p hp
    omega
  rwa [List.length_map] at this
end Wb
set_option Elab.async false
set_option linter.all false
set_option maxRecDepth 100000
set_option maxHeartbeats 4000000
namespace Cf
open PySem DL L2 Ca Cb Cc Wa Wb
def plus (xs ys : List Int) : List Int := (xs.zip ys).map fun p => p.1 + p.2
def box : List Int → Nat
  | [] => 1
  | m :: ms => (m.toNat + 1) * box ms
end Cf
set_option Elab.async false
set_option linter.all false
set_option maxRecDepth 100000
set_option maxHeartbeats 4000000
namespace Cf
open PySem DL L2 Ca Cb Cc Wa Wb
end Cf
set_option Elab.async false
set_option linter.all false
set_option maxRecDepth 100000
set_option maxHeartbeats 4000000
namespace Cf
open PySem DL L2 Ca Cb Cc Wa Wb
open PySem.W (alike alikeAll dataLt dataLe AllAlike Sortable) in
theorem pds_ints : ∀ r : List Int, pds (r.map D.int) = r.map PyData.int
  | [] => rfl
  | _ :: r => congrArg (PyData.int _ :: ·) (pds_ints r)
theorem isDs_ints (n : Nat) : ∀ r : List Int, isDs n (r.map D.int) = true
  | [] => rfl
  | _ :: r => by
    show (true && isDs n (r.map D.int)) = true
    rw [isDs_ints n r]; rfl
theorem pd_tI (r : List Int) : pd (tI r) = .tuple (r.map PyData.int) := congrArg PyData.tuple (pds_ints r)
theorem lt_tI (r s : List Int) : PySem.W.dataLt (pd (tI r)) (pd (tI s)) = decide (r < s) := by
  rw [pd_tI, pd_tI, PySem.W.dataLt_tuple]
  exact PySem.W.dataLt_ints r s
end Cf
set_option Elab.async false
set_option linter.all false
set_option maxRecDepth 100000
set_option maxHeartbeats 4000000
namespace TY
open PySem DL L2 Ca Cb Cc
open En (e)
class EnD (α : Type) [En α] [DecidableEq α] where
  dep : Nat
  isd : ∀ (n : Nat) (x : α), dep ≤ n → isD n (e x) = true
  eqd : ∀ x y : α, eqD (e x) (e y) = decide (x = y)
open EnD (dep)
instance : EnD Int := ⟨0, fun n x _ => by cases n <;> rfl, fun x y => eqv_int x y⟩
instance : EnD Bool := ⟨0, fun n x _ => by cases n <;> rfl, fun x y => eqv_bl x y⟩
instance : EnD Unit := ⟨0, fun n x _ => by cases n <;> rfl, fun x y => rfl⟩
theorem isDs_e {α : Type} [En α] {n : Nat} (h : ∀ x : α, isD n (e x) = true) : ∀ xs : List α, isDs n (xs.map e) = true
  | [] => rfl
  | x :: r => by
    show (isD n (e x) && isDs n (r.map e)) = true
    rw [h x, isDs_e h r]; rfl
theorem eqDs_e {α : Type} [En α] [DecidableEq α] [EnD α] : ∀ xs ys : List α, eqDs (xs.map e) (ys.map e) = decide (xs = ys)
  | [], [] => rfl
  | _ :: _, [] => rfl
  | [], _ :: _ => rfl
  | x :: xs, y :: ys => by
    show (eqD (e x) (e y) && eqDs (xs.map e) (ys.map e)) = _
    rw [EnD.eqd, eqDs_e xs ys]
    by_cases h : x = y <;> by_cases h2 : xs = ys <;> simp [h, h2]
instance {α : Type} [En α] [DecidableEq α] [EnD α] : EnD (List α) := ⟨dep α + 1, fun n x h => by
  cases n with
  | zero => omega
  | succ n => exact isDs_e (fun z => EnD.isd n z (by omega)) x, fun x y => eqDs_e x y⟩
theorem dep2 (a b : Nat) (n : Nat) (h : max a b + 1 ≤ n + 1) : a ≤ n ∧ b ≤ n := by omega
instance {α β : Type} [En α] [DecidableEq α] [EnD α] [En β] [DecidableEq β] [EnD β] : EnD (α × β) := ⟨max (dep α) (dep β) + 1, fun n x h => by
  cases n with
  | zero => omega
  | succ n =>
    obtain ⟨h1, h2⟩ := dep2 _ _ n h
    show (isD n (e x.1) && (isD n (e x.2) && true)) = true
    rw [EnD.isd n x.1 h1, EnD.isd n x.2 h2]; rfl, fun x y => by
  show (eqD (e x.1) (e y.1) && (eqD (e x.2) (e y.2) && true)) = _
  rw [EnD.eqd, EnD.eqd]
  obtain ⟨a, b⟩ := x
  obtain ⟨c, d⟩ := y
  by_cases h : a = c <;> by_cases h2 : b = d <;> simp [h, h2]⟩
instance {α β γ : Type} [En α] [DecidableEq α] [EnD α] [En β] [DecidableEq β] [EnD β] [En γ] [DecidableEq γ] [EnD γ] : EnD (T3 α β γ) := ⟨max (dep α) (max (dep β) (dep γ)) + 1, fun n x h => by
  cases n with
  | zero => omega
  | succ n =>
    have h1 : dep α ≤ n := by omega
    have h2 : dep β ≤ n := by omega
    have h3 : dep γ ≤ n := by omega
    show (isD n (e x.a) && (isD n (e x.b) && (isD n (e x.c) && true))) = true
    rw [EnD.isd n x.a h1, EnD.isd n x.b h2, EnD.isd n x.c h3]; rfl, fun x y => by
  show (eqD (e x.a) (e y.a) && (eqD (e x.b) (e y.b) && (eqD (e x.c) (e y.c) && true))) = _
  rw [EnD.eqd, EnD.eqd, EnD.eqd]
  obtain ⟨a, b, c⟩ := x
  obtain ⟨a', b', c'⟩ := y
  by_cases h : a = a' <;> by_cases h2 : b = b' <;> by_cases h3 : c = c' <;> simp [h, h2, h3]⟩
class NoNone (α : Type) [En α] : Prop where
  nn : ∀ x : α, eqD (e x) .non = false ∧ eqD .non (e x) = false ∧ ∀ (n : Bool) (S : Sto) (Q : DQ), Q (.bl n) S → dIs n (e x) .non S Q
instance : NoNone Int := ⟨fun _ => ⟨rfl, rfl, fun _ _ _ q => q⟩⟩
instance : NoNone Str := ⟨fun _ => ⟨rfl, rfl, fun _ _ _ q => q⟩⟩
instance {α : Type} [En α] : NoNone (List α) := ⟨fun _ => ⟨rfl, rfl, fun _ _ _ q => q⟩⟩
instance {α β : Type} [En α] [En β] : NoNone (α × β) := ⟨fun _ => ⟨rfl, rfl, fun _ _ _ q => q⟩⟩
instance {α β γ : Type} [En α] [En β] [En γ] : NoNone (T3 α β γ) := ⟨fun _ => ⟨rfl, rfl, fun _ _ _ q => q⟩⟩
instance {α : Type} [En α] [DecidableEq α] [EnD α] [NoNone α] : EnD (Option α) := ⟨dep α, fun n x h => by
  cases x with
  | none => cases n <;> rfl
  | some x => exact EnD.isd n x h, fun x y => by
  cases x with
  | none => cases y with
    | none => rfl
    | some y => exact (NoNone.nn y).2.1
  | some x => cases y with
    | none => exact (NoNone.nn x).1
    | some y =>
      show eqD (e x) (e y) = _
      rw [EnD.eqd]
      by_cases h : x = y <;> simp [h]⟩
section
variable {α β γ : Type} {R : Rep α} {B O O' : List Addr} {t ta tb tc : DE} {ρ : Nv} {S S' : Sto} {x : α}
theorem lst_is [En α] {S S' : Sto} {xs : List α} {d : D} (h : (lst (v α)).r (ct B O S) xs d) : ∃ p, d = .ref p ∧ S p = some (.lst (xs.map e)) := by
  obtain ⟨p, h1, h2⟩ := lst_v.mp h
  exact ⟨p, h1, (ct_at.mp h2).2⟩
theorem lst_at {xs : List α} {d : D} (h : (lst R).r (ct B O S) xs d) : ∃ p ds, d = .ref p ∧ S p = some (.lst ds) ∧ p ∉ O ∧ p ∉ B ∧ All2 (R.r (ct B (p :: O) S)) xs ds := by
  obtain ⟨p, ds, h1, h2, h3⟩ := h
  obtain ⟨⟨m, k⟩, h2⟩ := ct_at.mp h2
  exact ⟨p, ds, h1, h2, m, k, All2.imp (fun _ _ h => R.mono ct_out h) h3⟩
theorem all2_ct {xs : List α} {ds : List D} {p : Addr} (h : All2 (R.r (ct B (p :: O) S)) xs ds) : All2 (R.r (ct B O S)) xs ds := All2.imp (fun _ _ h => R.mono (ct_mono fun a m => List.mem_cons_of_mem _ m) h) h
theorem el_eq [En α] [DecidableEq α] [EnD α] {x y : List α} (ha : ED (lst (v α)) B O ta ρ S x) (hb : ED (lst (v α)) B O' tb ρ S y) (h : dep α ≤ 62 := by decide) : EI B (dOp dEq ta tb) ρ S (decide (x = y)) :=
  fun S1 k1 Q q => ha S1 k1 _ fun d S2 k2 r => hb S2 (k1.trans k2) _ fun d' S3 k3 r' => by
    obtain ⟨p, ds, rfl, hp, m, k, _⟩ := lst_at r
    obtain ⟨p1, e1, h1⟩ := lst_is (S' := S2) r
    cases e1
    rw [hp] at h1
    cases h1
    obtain ⟨p2, rfl, h2⟩ := lst_is (S' := S3) r'
    exact eq_RR (k3.keep _ _ k hp) h2 (isDs_up (isDs_e (fun z => EnD.isd 62 z h) x)) (isDs_up (isDs_e (fun z => EnD.isd 62 z h) y)) (by rw [eqDs_e]; exact q _ S3 (k2.trans k3) rfl)
theorem el_ne [En α] [DecidableEq α] [EnD α] {x y : List α} (ha : ED (lst (v α)) B O ta ρ S x) (hb : ED (lst (v α)) B O' tb ρ S y) (h : dep α ≤ 62 := by decide) : EI B (dOp dNe ta tb) ρ S (decide (x ≠ y)) :=
  fun S1 k1 Q q => ha S1 k1 _ fun d S2 k2 r => hb S2 (k1.trans k2) _ fun d' S3 k3 r' => by
    obtain ⟨p, ds, rfl, hp, m, k, _⟩ := lst_at r
    obtain ⟨p1, e1, h1⟩ := lst_is (S' := S2) r
    cases e1
    rw [hp] at h1
    cases h1
    obtain ⟨p2, rfl, h2⟩ := lst_is (S' := S3) r'
    exact ne_RR (k3.keep _ _ k hp) h2 (isDs_up (isDs_e (fun z => EnD.isd 62 z h) x)) (isDs_up (isDs_e (fun z => EnD.isd 62 z h) y)) (by rw [eqDs_e]; rw [← decide_not]; exact q _ S3 (k2.trans k3) rfl)
theorem ei_some [En α] {x : α} (ha : EI B ta ρ S x) : EI B ta ρ S (some x) := ha
theorem ei_none [En α] : EI B (dC .non) ρ S (none : Option α) := ei_c none rfl
theorem ei_get [En α] [Inhabited α] {x : Option α} (ha : EI B ta ρ S x) (ok : x.isSome = true) : EI B ta ρ S (x.getD default) := by
  cases x with
  | none => cases ok
  | some x => exact ha
theorem ei_isN [En α] [NoNone α] {x : Option α} (ha : EI B ta ρ S x) : EI B (dOp (dIs false) ta (dC .non)) ρ S (x.isNone) := fun S1 k1 Q q => ha S1 k1 _ fun d S2 k2 r => by
  cases x with
  | none => cases r; exact q _ S2 k2 rfl
  | some x => rw [show d = e x from r]; exact (NoNone.nn x).2.2 false S2 Q (q _ S2 k2 rfl)
theorem ei_isNN [En α] [NoNone α] {x : Option α} (ha : EI B ta ρ S x) : EI B (dOp (dIs true) ta (dC .non)) ρ S (x.isSome) := fun S1 k1 Q q => ha S1 k1 _ fun d S2 k2 r => by
  cases x with
  | none => cases r; exact q _ S2 k2 rfl
  | some x => rw [show d = e x from r]; exact (NoNone.nn x).2.2 true S2 Q (q _ S2 k2 rfl)
theorem all2_get {R : α → D → Prop} : ∀ {xs : List α} {ds : List D} {i : Nat} {x : α}, All2 R xs ds → xs[i]? = some x → ∃ d, ds[i]? = some d ∧ R x d
  | _, _, i, _, .nil, h => by simp at h
  | _, _, 0, _, .cons r _, h => by simp at h; subst h; exact ⟨_, rfl, r⟩
  | _, _, i + 1, x, .cons _ t, h => by
    obtain ⟨d, h1, h2⟩ := all2_get (i := i) (x := x) t (by simpa using h)
    exact ⟨d, by simpa using h1, h2⟩
theorem ed_at [Inhabited α] {xs : List α} {k : Int} (ha : ED (lst R) B O ta ρ S xs) (hb : EI B tb ρ S k) (ok : 0 ≤ k ∧ k < xs.length) : ED R B O (dOp dIx ta tb) ρ S (gI xs k) :=
  fun S1 k1 Q q => ha S1 k1 _ fun d S2 k2 r => hb S2 (k1.trans k2) _ fun d' S3 k3 r' => by
    cases r'
    obtain ⟨p, ds, rfl, hp, m, k, a⟩ := lst_at r
    obtain ⟨y, h1, h2⟩ := all2_get a (gI_at ok)
    obtain ⟨n, rfl⟩ := Int.eq_ofNat_of_zero_le ok.1
    exact ⟨ds, y, k3.keep _ _ k hp, atn h1, q _ S3 (k2.trans k3) (R.mono ((ct_st k3).trans (ct_mono fun a m => List.mem_cons_of_mem _ m)) h2)⟩
theorem ed_last [Inhabited α] {xs : List α} (ha : ED (lst R) B O ta ρ S xs) (ok : xs ≠ []) : ED R B O (dOp dIx ta (dUn dNeg (dC (.int 1)))) ρ S (lastI xs) :=
  fun S1 k1 Q q => ha S1 k1 _ fun d S2 k2 r => by
    obtain ⟨p, ds, rfl, hp, m, k, a⟩ := lst_at r
    have hl : 0 < xs.length := List.length_pos_iff.mpr ok
    have e1 : xs[xs.length - 1]? = some (lastI xs) := by
      unfold lastI
      rw [List.getLast?_eq_getElem?, List.getElem?_eq_getElem (by omega)]; rfl
    obtain ⟨y, h1, h2⟩ := all2_get a e1
    refine ⟨ds, y, hp, ?_, q _ S2 k2 (R.mono (ct_mono fun a m => List.mem_cons_of_mem _ m) h2)⟩
    have hd := a.length
    unfold atI ixN
    rw [if_neg (by decide), if_pos (by omega)]
    show ds[((-1 : Int) + (ds.length : Int)).toNat]? = _
    rw [show ((-1 : Int) + (ds.length : Int)).toNat = xs.length - 1 by omega]
    exact h1
theorem ei_atL [En α] [Inhabited α] {xs : List α} {k : Int} (ha : ED (lst (v α)) B O ta ρ S xs) (hb : EI B tb ρ S k) (ok : 0 ≤ k ∧ k < xs.length) : EI B (dOp dIx ta tb) ρ S (gI xs k) := ED.o (ed_at ha hb ok)
theorem ei_lastL [En α] [Inhabited α] {xs : List α} (ha : ED (lst (v α)) B O ta ρ S xs) (ok : xs ≠ []) : EI B (dOp dIx ta (dUn dNeg (dC (.int 1)))) ρ S (lastI xs) := ED.o (ed_last ha ok)
def sl (xs : List α) (lo hi : Option Int) : List α := (xs.drop (HT.sIx xs.length 0 lo)).take (HT.sIx xs.length xs.length hi - HT.sIx xs.length 0 lo)
theorem sl_map {f : α → D} {xs : List α} {lo hi : Option Int} : cutD (xs.map f) lo hi = (sl xs lo hi).map f := by
  unfold cutD sl
  rw [List.length_map, List.map_take, List.map_drop]
def EP (B : List Addr) (t : DO) (ρ : Nv) (S : Sto) (x : Option Int) : Prop := ∀ S1, St B S S1 → ∀ Q : Option Int → Sto → Prop, (∀ S2, St B S1 S2 → Q x S2) → t ρ S1 Q
theorem ep_no : EP B dNoPart ρ S none := fun S1 k1 Q q => q S1 (St.refl _ _)
theorem ep_some {i : Int} (h : EI B t ρ S i) : EP B (dPart t) ρ S (some i) := fun S1 k1 Q q => h S1 k1 _ fun d S2 k2 r => ⟨i, r, q S2 k2⟩
theorem ei_sl [En α] {xs : List α} {lo hi : Option Int} {tl th : DO} (ha : EI B ta ρ S xs) (hl : EP B tl ρ S lo) (hh : EP B th ρ S hi) : EI B (dSl dSlc ta tl th) ρ S (sl xs lo hi) :=
  fun S1 k1 Q q => ha S1 k1 _ fun d S2 k2 r => hl S2 (k1.trans k2) _ fun S3 k3 => hh S3 ((k1.trans k2).trans k3) _ fun S4 k4 => by
    cases r
    show Q (.tup (cutD (xs.map e) lo hi)) S4
    rw [sl_map]
    exact q _ S4 ((k2.trans k3).trans k4) rfl
theorem all2_drop {R : α → D → Prop} : ∀ {xs : List α} {ds : List D} (n : Nat), All2 R xs ds → All2 R (xs.drop n) (ds.drop n)
  | _, _, 0, h => h
  | _, _, _ + 1, .nil => .nil
  | _, _, n + 1, .cons _ t => all2_drop n t
theorem all2_take {R : α → D → Prop} : ∀ {xs : List α} {ds : List D} (n : Nat), All2 R xs ds → All2 R (xs.take n) (ds.take n)
  | _, _, 0, h => .nil
  | _, _, _ + 1, .nil => .nil
  | _, _, n + 1, .cons r t => .cons r (all2_take n t)
theorem all2_sl {R : α → D → Prop} {xs : List α} {ds : List D} {lo hi : Option Int} (h : All2 R xs ds) : All2 R (sl xs lo hi) (cutD ds lo hi) := by
  unfold sl cutD
  rw [h.length]
  exact all2_take _ (all2_drop _ h)
structure Cx (B O : List Addr) (S : Sto) : Prop where
  b : ∀ b ∈ B, ∃ c, Bag b c S
  o : ∀ b ∈ O, b ∉ B ∧ S b ≠ none
theorem Cx.st (h : Cx B O S) (k : St B S S') : Cx B O S' := ⟨fun b m => by
  obtain ⟨c, z⟩ := h.b b m
  exact ⟨c, k.bag b m c z⟩, fun b m => by
  refine ⟨(h.o b m).1, fun z => ?_⟩
  cases e1 : S b with
  | none => exact (h.o b m).2 e1
  | some c =>
    rw [k.keep b c (h.o b m).1 e1] at z
    cases z⟩
theorem Cx.nil : Cx [] [] S := ⟨fun _ m => by simp at m, fun _ m => by simp at m⟩
theorem Cx.sub (h : Cx B O S) (k : ∀ a, a ∈ O' → a ∈ O) : Cx B O' S := ⟨h.b, fun b m => h.o b (k b m)⟩
theorem Cx.mut {p : Addr} {c : Cell} {S0 : Sto} (h : Cx B O S) (h0 : Cx B [] S0) (k : St B S0 S) (n : S0 p = none) : Cx B O (up1 S p c) := by
  have k' : St B S0 (up1 S p c) := k.mut n
  refine ⟨fun b m => ?_, fun b m => ⟨(h.o b m).1, fun z => ?_⟩⟩
  · obtain ⟨c', z⟩ := h0.b b m
    exact ⟨c', k'.bag b m c' z⟩
  · by_cases e1 : b = p
    · subst e1; rw [up1_same] at z; cases z
    · rw [up1_ne e1] at z; exact (h.o b m).2 z
theorem Cx.newB (h : Cx B O S) {p : Addr} (n : S p = none) : p ∉ B := fun m => by
  obtain ⟨c, z⟩ := h.b p m
  exact absurd rfl (z.ne n).1
theorem Cx.newO (h : Cx B O S) {p : Addr} (n : S p = none) : p ∉ O := fun m => (h.o p m).2 n
theorem Cx.cons (h : Cx B O S) {p : Addr} (k : St B S S') (n : S p = none) (m : S' p ≠ none) : Cx B (p :: O) S' := ⟨(h.st k).b, fun b z => by
  rcases List.mem_cons.mp z with rfl | z
  · exact ⟨h.newB n, m⟩
  · exact (h.st k).o b z⟩
theorem new_lst {S1 S2 : Sto} {xs : List α} {ds : List D} {Q : DQ} (hc : Cx B O S2) (a : All2 (R.r (ct B O S2)) xs ds)
    (k : St B S1 S2) (q : ∀ d S3, St B S1 S3 → (lst R).r (ct B O S3) xs d → Fr S1 d → Q d S3) : ∀ p, S2 p = none → Q (.ref p) (up1 S2 p (.lst ds)) := fun p n => by
  refine q _ _ (k.trans (St.of (Ext.new n))) ⟨p, ds, rfl, ?_, All2.imp (fun _ _ h => R.mono ?_ h) a⟩ ⟨p, rfl, k.none hc.b n⟩
  · rw [ct_up1 (hc.newO n) (hc.newB n)]; exact up1_same
  · exact (ct_new n (St.of (Ext.new n))).trans ct_in
theorem all2_st {S S' : Sto} {xs : List α} {ds : List D} (k : St B S S') (h : All2 (R.r (ct B O S)) xs ds) : All2 (R.r (ct B O S')) xs ds := All2.imp (fun _ _ h => R.mono (ct_st k) h) h
theorem en_sl {xs : List α} {lo hi : Option Int} {tl th : DO} (hc : Cx B O S) (ha : ED (lst R) B O ta ρ S xs) (hl : EP B tl ρ S lo) (hh : EP B th ρ S hi) : EN (lst R) B O (dSl dSlc ta tl th) ρ S (sl xs lo hi) :=
  fun S1 k1 Q q => ha S1 k1 _ fun d S2 k2 r => hl S2 (k1.trans k2) _ fun S3 k3 => hh S3 ((k1.trans k2).trans k3) _ fun S4 k4 => by
    obtain ⟨p, ds, rfl, hp, m, k, a⟩ := lst_at r
    exact ⟨ds, (k3.trans k4).keep _ _ k hp, new_lst (hc.st (((k1.trans k2).trans k3).trans k4)) (all2_sl (all2_st (k3.trans k4) (all2_ct a))) ((k2.trans k3).trans k4) q⟩
theorem all2_app {R : α → D → Prop} {a b : List α} {c d : List D} (h1 : All2 R a c) (h2 : All2 R b d) : All2 R (a ++ b) (c ++ d) := by
  induction h1 with
  | nil => exact h2
  | cons r _ ih => exact .cons r ih
theorem el_nil : EL B dNil ρ S [] := fun S1 k1 Q q => q S1 (St.refl _ _)
theorem el_cons [En α] {x : α} {u : DA} {ds : List D} (h : EI B t ρ S x) (hr : EL B u ρ S ds) : EL B (dCons t u) ρ S (e x :: ds) := fun S1 k1 Q q => h S1 k1 _ fun d S2 k2 r => hr S2 (k1.trans k2) _ fun S3 k3 => by
  cases r; exact q S3 (k2.trans k3)
theorem ei_tup [En α] {x : α} {u : DA} {ds : List D} (h : EL B u ρ S ds) (hx : .tup ds = (e x : D)) (ok : ds.length ≤ sizeLine) : EI B (dTup u) ρ S x := fun S1 k1 Q q => h S1 k1 _ fun S2 k2 => ⟨ok, q _ S2 k2 hx⟩
theorem er_nil : ELR R B O dNil ρ S [] := fun S1 k1 Q q => q [] S1 (St.refl _ _) .nil
theorem er_cons {x : α} {u : DA} {xs : List α} (h : ED R B O t ρ S x) (hr : ELR R B O u ρ S xs) : ELR R B O (dCons t u) ρ S (x :: xs) := fun S1 k1 Q q => h S1 k1 _ fun d S2 k2 r => hr S2 (k1.trans k2) _ fun ds S3 k3 a => q _ S3 (k2.trans k3) (.cons (R.mono (ct_st k3) r) a)
theorem all2_len {R : α → D → Prop} {xs : List α} {ds : List D} (h : All2 R xs ds) : ds.length = xs.length := h.length.symm
theorem en_lst {u : DA} {xs : List α} (hc : Cx B O S) (h : ELR R B O u ρ S xs) (ok : xs.length ≤ sizeLine) : EN (lst R) B O (dLst u) ρ S xs := fun S1 k1 Q q => h S1 k1 _ fun ds S2 k2 a => ⟨by rw [all2_len a]; exact ok, new_lst (hc.st (k1.trans k2)) a k2 q⟩
theorem eb_b {b : Bool} (h : EI B t ρ S b) : EB B (dB t) ρ S b := fun S1 k1 Q q => h S1 k1 _ fun d S2 k2 r => ⟨b, r, q S2 k2⟩
theorem eb_tru {b : Bool} (h : EI B t ρ S b) : EB B (dTru t) ρ S b := fun S1 k1 Q q => h S1 k1 _ fun d S2 k2 r => by cases r; exact q S2 k2
theorem EB.st {tA : DT} {b : Bool} (h : EB B tA ρ S b) (k : St B S S') : EB B tA ρ S' b := fun S1 k1 => h S1 (k.trans k1)
theorem eb_and {tA tB : DT} {a b : Bool} (ha : EB B tA ρ S a) (hb : a = true → EB B tB ρ S b) : EB B (dAndT tA tB) ρ S (a && b) := fun S1 k1 Q q => ha S1 k1 _ fun S2 k2 => by
  cases a with
  | true => exact hb rfl S2 (k1.trans k2) Q fun S3 k3 => q S3 (k2.trans k3)
  | false => exact q S2 k2
theorem eb_or {tA tB : DT} {a b : Bool} (ha : EB B tA ρ S a) (hb : a = false → EB B tB ρ S b) : EB B (dOrT tA tB) ρ S (a || b) := fun S1 k1 Q q => ha S1 k1 _ fun S2 k2 => by
  cases a with
  | false => exact hb rfl S2 (k1.trans k2) Q fun S3 k3 => q S3 (k2.trans k3)
  | true => exact q S2 k2
theorem eb_not {tA : DT} {a : Bool} (ha : EB B tA ρ S a) : EB B (dNotT tA) ρ S (!a) := fun S1 k1 Q q => ha S1 k1 _ fun S2 k2 => q S2 k2
theorem ed_if {tA : DT} {a : Bool} {x y : α} (hA : EB B tA ρ S a) (ha : a = true → ED R B O ta ρ S x) (hb : a = false → ED R B O tb ρ S y) : ED R B O (dIf tA ta tb) ρ S (if a = true then x else y) := fun S1 k1 Q q => hA S1 k1 _ fun S2 k2 => by
  cases a with
  | true => exact ha rfl S2 (k1.trans k2) Q fun d S3 k3 r => q d S3 (k2.trans k3) r
  | false => exact hb rfl S2 (k1.trans k2) Q fun d S3 k3 r => q d S3 (k2.trans k3) r
theorem Fr.of {S1 S2 : Sto} {d : D} (hc : Cx B O S2) (k : St B S1 S2) (h : Fr S2 d) : Fr S1 d := by
  obtain ⟨p, e1, n⟩ := h
  exact ⟨p, e1, k.none hc.b n⟩
theorem en_if {tA : DT} {a : Bool} {x y : α} (hc : Cx B O S) (hA : EB B tA ρ S a) (ha : a = true → EN R B O ta ρ S x) (hb : a = false → EN R B O tb ρ S y) : EN R B O (dIf tA ta tb) ρ S (if a = true then x else y) := fun S1 k1 Q q => hA S1 k1 _ fun S2 k2 => by
  cases a with
  | true => exact ha rfl S2 (k1.trans k2) Q fun d S3 k3 r f => q d S3 (k2.trans k3) r (f.of (hc.st (k1.trans k2)) k2)
  | false => exact hb rfl S2 (k1.trans k2) Q fun d S3 k3 r f => q d S3 (k2.trans k3) r (f.of (hc.st (k1.trans k2)) k2)
end
end TY
set_option Elab.async false
set_option linter.all false
set_option maxRecDepth 100000
set_option maxHeartbeats 4000000
namespace TY
open PySem DL L2 Ca Cb Cc
open En (e)
open EnD (dep)
def SeqAt {α : Type} (R : Rep α) (B O : List Addr) (S : Sto) (xs : List α) (d : D) : Prop :=
  ∃ ds, All2 (R.r (ct B O S)) xs ds ∧ (d = .tup ds ∨ ∃ p, d = .ref p ∧ S p = some (.lst ds) ∧ p ∉ O ∧ p ∉ B)
def ESeq {α : Type} (R : Rep α) (B O : List Addr) (t : DE) (ρ : Nv) (S : Sto) (xs : List α) : Prop :=
  ∀ S1, St B S S1 → ∀ Q : DQ, (∀ d S2, St B S1 S2 → SeqAt R B O S2 xs d → Q d S2) → t ρ S1 Q
def EIt {α : Type} (R : Rep α) (B O : List Addr) (t : DI) (ρ : Nv) (S : Sto) (xs : List α) : Prop :=
  ∀ S1, St B S S1 → ∀ P : List D → (Sto → Prop) → Sto → Prop, (∀ ds chk S2, St B S1 S2 → All2 (R.r (ct B O S2)) xs ds → (∀ S3, Ext (ct B O S2) (ct B O S3) → chk S3) → P ds chk S2) → t ρ S1 P
def pr {α β : Type} (R : Rep α) (R' : Rep β) : Rep (α × β) := ⟨fun S x d => ∃ a b, d = .tup [a, b] ∧ R.r S x.1 a ∧ R'.r S x.2 b, fun k ⟨a, b, h, h1, h2⟩ => ⟨a, b, h, R.mono k h1, R'.mono k h2⟩⟩
def rngI (a b : Int) : List Int := (List.range (b - a).toNat).map fun k : Nat => a + (k : Int)
def enumI {α : Type} (xs : List α) : List (Int × α) := xs.zipIdx.map fun p => ((p.2 : Int), p.1)
section
variable {α β γ : Type} {R : Rep α} {R' : Rep β} {B O O' : List Addr} {t ta tb tc : DE} {ρ : Nv} {S S' : Sto} {x : α}
theorem es_tup [En α] {xs : List α} (h : EI B t ρ S xs) : ESeq (v α) B O t ρ S xs := fun S1 k1 Q q => h S1 k1 _ fun d S2 k2 r => q d S2 k2 ⟨_, all2_mk xs, .inl r⟩
theorem es_lst {xs : List α} (h : ED (lst R) B O t ρ S xs) : ESeq R B O t ρ S xs := fun S1 k1 Q q => h S1 k1 _ fun d S2 k2 r => by
  obtain ⟨p, ds, e1, hp, m, k, a⟩ := lst_at r
  exact q d S2 k2 ⟨ds, all2_ct a, .inr ⟨p, e1, hp, m, k⟩⟩
theorem ESeq.st {xs : List α} (h : ESeq R B O t ρ S xs) (k : St B S S') : ESeq R B O t ρ S' xs := fun S1 k1 => h S1 (k.trans k1)
theorem SeqAt.sq {xs : List α} {d : D} (h : SeqAt R B O S xs d) {P : List D → (Sto → Prop) → Prop} (p : ∀ ds chk, All2 (R.r (ct B O S)) xs ds → (∀ S3, Ext (ct B O S) (ct B O S3) → chk S3) → P ds chk) : sqD d S P := by
  obtain ⟨ds, a, rfl | ⟨p', rfl, hp, m, k⟩⟩ := h
  · exact p ds _ a fun _ _ => trivial
  · exact ⟨ds, hp, p ds _ a fun S3 x => (ct_at.mp (x _ _ (ct_at.mpr ⟨⟨m, k⟩, hp⟩))).2⟩
theorem SeqAt.st {xs : List α} {d : D} (h : SeqAt R B O S xs d) (k : St B S S') : SeqAt R B O S' xs d := by
  obtain ⟨ds, a, rfl | ⟨p', rfl, hp, m, k'⟩⟩ := h
  · exact ⟨ds, all2_st k a, .inl rfl⟩
  · exact ⟨ds, all2_st k a, .inr ⟨p', rfl, k.keep _ _ k' hp, m, k'⟩⟩
theorem it_any {xs : List α} (h : ESeq R B O t ρ S xs) : EIt R B O (iAny t) ρ S xs := fun S1 k1 P p => by
  rw [ap_iAny]
  exact h S1 k1 _ fun d S2 k2 r => r.sq fun ds chk a c => p ds chk S2 k2 a c
theorem rngD_e (a : Int) (n : Nat) : rngD a n = ((List.range n).map fun k : Nat => a + (k : Int)).map e := by
  rw [List.map_map]; rfl
theorem it_rng1 {n : Int} (h : EI B t ρ S n) (ok : -(2 ^ 62) ≤ n ∧ n < 2 ^ 62) : EIt (v Int) B O (iRng1 (dCons t dNil)) ρ S (rngI 0 n) := fun S1 k1 P p => h S1 k1 _ fun d S2 k2 r => by
  cases r
  refine ⟨ok.1, ok.2, p _ _ S2 k2 ?_ fun _ _ => trivial⟩
  rw [rngD_e]
  have : rngI 0 n = (List.range n.toNat).map fun k : Nat => (0 : Int) + (k : Int) := by unfold rngI; rw [Int.sub_zero]
  rw [this]; exact all2_mk _
theorem it_rng2 {a b : Int} (ha : EI B ta ρ S a) (hb : EI B tb ρ S b) (ok : -(2 ^ 62) ≤ a ∧ a < 2 ^ 62 ∧ -(2 ^ 62) ≤ b ∧ b < 2 ^ 62) : EIt (v Int) B O (iRng2 (dCons ta (dCons tb dNil))) ρ S (rngI a b) := fun S1 k1 P p => ha S1 k1 _ fun d S2 k2 r => hb S2 (k1.trans k2) _ fun d' S3 k3 r' => by
  cases r; cases r'
  refine ⟨ok, p _ _ S3 (k2.trans k3) ?_ fun _ _ => trivial⟩
  rw [rngD_e]; exact all2_mk _
theorem z2 {xs : List α} {ys : List β} (ha : ESeq R B O ta ρ S xs) (hb : ESeq R' B O tb ρ S ys) {S1 : Sto} (k1 : St B S S1) {P : List D → List D → (Sto → Prop) → Sto → Prop} (p : ∀ ds es chk S2, St B S1 S2 → All2 (R.r (ct B O S2)) xs ds → All2 (R'.r (ct B O S2)) ys es → (∀ S3, Ext (ct B O S2) (ct B O S3) → chk S3) → P ds es chk S2) : dZ2 (dCons ta (dCons tb dNil)) ρ S1 P :=
  ha S1 k1 _ fun d S2 k2 r => hb S2 (k1.trans k2) _ fun d' S3 k3 r' => by
    show sqD d S3 fun xs c1 => sqD d' S3 fun ys c2 => P xs ys (fun S' => c1 S' ∧ c2 S') S3
    exact (r.st k3).sq fun ds c1 a1 h1 => r'.sq fun es c2 a2 h2 => p ds es _ S3 (k2.trans k3) a1 a2 fun S4 x => ⟨h1 S4 x, h2 S4 x⟩
theorem pr_v [En α] [En β] {S : Sto} {x : α × β} {d : D} : (pr (v α) (v β)).r S x d ↔ (v (α × β)).r S x d := by
  constructor
  · rintro ⟨a, b, rfl, h1, h2⟩; cases h1; cases h2; rfl
  · intro h; exact ⟨_, _, h, rfl, rfl⟩
theorem EIt.pv [En α] [En β] {w : DI} {xs : List (α × β)} (h : EIt (pr (v α) (v β)) B O w ρ S xs) : EIt (v (α × β)) B O w ρ S xs := fun S1 k1 P p => h S1 k1 P fun ds chk S2 k2 a c => p ds chk S2 k2 (All2.imp (fun _ _ h => pr_v.mp h) a) c
theorem all2_enum {R : α → D → Prop} {T : Int × α → D → Prop} (h : ∀ (i : Nat) x a, R x a → T ((i : Int), x) (.tup [.int i, a])) : ∀ {xs : List α} {ds : List D} (n : Nat), All2 R xs ds → All2 T ((xs.zipIdx n).map fun p => ((p.2 : Int), p.1)) (enumD n ds)
  | _, _, n, .nil => .nil
  | _, _, n, .cons (x := x) (y := y) (xs := xs) (ys := ys) r t => by
    have e1 : enumD n (y :: ys) = .tup [.int n, y] :: enumD ((n + 1 : Nat) : Int) ys := by
      unfold enumD
      rw [List.mapIdx_cons]
      refine congr (congrArg List.cons ?_) ?_
      · simp
      · refine List.ext_getElem? fun i => ?_
        rw [List.getElem?_mapIdx, List.getElem?_mapIdx]
        refine congrArg (fun g => Option.map g ys[i]?) (funext fun z => ?_)
        rw [show (n : Int) + ((i + 1 : Nat) : Int) = ((n + 1 : Nat) : Int) + (i : Int) by omega]
    rw [e1, List.zipIdx_cons, List.map_cons]
    exact .cons (h n _ _ r) (all2_enum h (n + 1) t)
theorem it_enum {xs : List α} (ha : ESeq R B O ta ρ S xs) : EIt (pr (v Int) R) B O (iEnm (dCons ta dNil)) ρ S (enumI xs) := fun S1 k1 P p => by
  rw [ap_iEnm]
  exact ha S1 k1 _ fun d S2 k2 r => r.sq fun ds chk a c => p _ _ S2 k2 (all2_enum (fun i x a h => ⟨_, _, rfl, rfl, h⟩) 0 a) c
def EG (g : DG) (ρ : Nv) (d : D) (ρ' : Nv) : Prop := ∀ (S : Sto) (Q : Nv → Sto → Prop), Q ρ' S → g d ρ S Q
theorem eg_set {i : Nat} {d : D} : EG (gSet i) ρ d (ρ.set i (some d)) := fun S Q q => q
theorem eg_t2 {g1 g2 : DG} {a b : D} {ρ1 ρ2 : Nv} (h1 : EG g1 ρ a ρ1) (h2 : EG g2 ρ1 b ρ2) : EG (gTup 2 (gCons g1 (gCons g2 gNil))) ρ (.tup [a, b]) ρ2 := fun S Q q => ⟨rfl, h1 S _ (h2 S _ ⟨rfl, q⟩)⟩
theorem lc_go {Ri : Rep α} {R : Rep β} {g : DG} {tt : DT} {te : DE} {ρw : Nv} {chk : Sto → Prop} {c : α → Bool} {f : α → β} {S0 : Sto} :
    ∀ (xs : List α) (ds : List D) (S1 : Sto), St B S0 S1 → All2 (Ri.r (ct B O' S1)) xs ds → (∀ S3, Ext (ct B O' S1) (ct B O' S3) → chk S3) →
    (∀ x ∈ xs, ∀ d S2, St B S1 S2 → Ri.r (ct B O' S2) x d → ∃ ρ2, EG g ρw d ρ2 ∧ EB B tt ρ2 S2 (c x) ∧ (c x = true → ED R B O te ρ2 S2 (f x))) →
    ∀ (F : List D → Sto → Prop), (∀ es S2, St B S1 S2 → All2 (R.r (ct B O S2)) ((xs.filter c).map f) es → F es S2) → lcD chk g tt te ρw ds S1 F
  | _, _, S1, k0, .nil, hc, body, F, q => ⟨hc S1 (Ext.refl _), q [] S1 (St.refl _ _) .nil⟩
  | _, _, S1, k0, .cons (x := x) (y := y) (xs := xs) (ys := ys) r t, hc, body, F, q => by
    refine ⟨hc S1 (Ext.refl _), ?_⟩
    obtain ⟨ρ2, hg, ht, he⟩ := body x (by simp) y S1 (St.refl _ _) r
    refine hg S1 _ (ht S1 (St.refl _ _) _ fun S2 k2 => ?_)
    have rest : ∀ S3, St B S1 S3 → ∀ (F' : List D → Sto → Prop), (∀ es S4, St B S3 S4 → All2 (R.r (ct B O S4)) ((xs.filter c).map f) es → F' es S4) → lcD chk g tt te ρw ys S3 F' := fun S3 k3 F' q' =>
      lc_go xs ys S3 (k0.trans k3) (all2_st k3 t) (fun S4 x4 => hc S4 ((ct_st k3).trans x4)) (fun x hx d S4 k4 => body x (List.mem_cons_of_mem _ hx) d S4 (k3.trans k4)) F' q'
    cases hcx : c x with
    | true =>
      rw [if_pos rfl]
      refine he hcx S2 k2 _ fun d S3 k3 r3 => rest S3 (k2.trans k3) _ fun es S4 k4 a => q _ S4 ((k2.trans k3).trans k4) ?_
      rw [List.filter_cons, if_pos hcx, List.map_cons]
      exact .cons (R.mono (ct_st k4) r3) a
    | false =>
      rw [if_neg Bool.false_ne_true]
      refine rest S2 k2 _ fun es S4 k4 a => q es S4 (k2.trans k4) ?_
      rw [List.filter_cons, if_neg (by rw [hcx]; exact Bool.false_ne_true)]
      exact a
theorem en_lc {Ri : Rep α} {R : Rep β} {wi : DI} {g : DG} {tt : DT} {te : DE} {vs : List Nat} {xs : List α} (c : α → Bool) (f : α → β) (hc : Cx B O S) (hi : EIt Ri B O' wi ρ S xs) (hl : xs.length ≤ sizeLine)
    (body : ∀ x ∈ xs, ∀ d S2, St B S S2 → Ri.r (ct B O' S2) x d → ∃ ρ2, EG g (wipeD ρ vs) d ρ2 ∧ EB B tt ρ2 S2 (c x) ∧ (c x = true → ED R B O te ρ2 S2 (f x))) :
    EN (lst R) B O (dLc wi g tt te vs) ρ S ((xs.filter c).map f) := fun S1 k1 Q q => hi S1 k1 _ fun ds chk S2 k2 a hchk => by
  refine ⟨by rw [all2_len a]; exact hl, ?_⟩
  refine lc_go xs ds S2 (k1.trans k2) a hchk (fun x hx d S3 k3 => body x hx d S3 ((k1.trans k2).trans k3)) _ fun es S3 k3 a3 => ?_
  exact new_lst (hc.st ((k1.trans k2).trans k3)) a3 (k2.trans k3) q
theorem eb_yes : EB B dYes ρ S true := fun S1 k1 Q q => q S1 (St.refl _ _)
theorem en_lc0 {Ri : Rep α} {R : Rep β} {wi : DI} {g : DG} {te : DE} {vs : List Nat} {xs : List α} (f : α → β) (hc : Cx B O S) (hi : EIt Ri B O' wi ρ S xs) (hl : xs.length ≤ sizeLine)
    (body : ∀ x ∈ xs, ∀ d S2, St B S S2 → Ri.r (ct B O' S2) x d → ∃ ρ2, EG g (wipeD ρ vs) d ρ2 ∧ ED R B O te ρ2 S2 (f x)) :
    EN (lst R) B O (dLc wi g dYes te vs) ρ S (xs.map f) := by
  have := en_lc (fun _ => true) f hc hi hl (tt := dYes) (te := te) (g := g) (vs := vs) (R := R) (fun x hx d S2 k2 r => by
    obtain ⟨ρ2, h1, h2⟩ := body x hx d S2 k2 r
    exact ⟨ρ2, h1, eb_yes, fun _ => h2⟩)
  rwa [List.filter_eq_self.mpr (fun _ _ => rfl)] at this
theorem ei_min {i j : Int} (ha : EI B ta ρ S i) (hb : EI B tb ρ S j) : EI B (dCall dMin2 (dCons ta (dCons tb dNil))) ρ S (min i j) := fun S1 k1 Q q => ha S1 k1 _ fun d S2 k2 r => hb S2 (k1.trans k2) _ fun d' S3 k3 r' => by
  cases r; cases r'
  show Q (.int (if j < i then j else i)) S3
  rw [show (if j < i then j else i) = min i j by omega]; exact q _ S3 (k2.trans k3) rfl
theorem ei_sum {xs : List Int} (h : ESeq (v Int) B O t ρ S xs) : EI B (dCall dSum (dCons t dNil)) ρ S xs.sum := fun S1 k1 Q q => h S1 k1 _ fun d S2 k2 r => by
  show sqD d S2 fun ds _ => ∃ ns : List Int, ds = ns.map D.int ∧ Q (.int ns.sum) S2
  refine r.sq fun ds chk a _ => ⟨xs, ?_, q _ S2 k2 rfl⟩
  rw [all2_v a]; rfl
theorem ei_tuple [En α] {xs : List α} (h : ESeq (v α) B O t ρ S xs) : EI B (dCall dTuple1 (dCons t dNil)) ρ S xs := fun S1 k1 Q q => h S1 k1 _ fun d S2 k2 r => by
  show sqD d S2 fun ds _ => Q (.tup ds) S2
  exact r.sq fun ds chk a _ => q _ S2 k2 (by rw [all2_v a]; rfl)
theorem en_lrg2 {a b : Int} (hc : Cx B O S) (ha : EI B ta ρ S a) (hb : EI B tb ρ S b) (ok : RgOk a b) : EN (lst (v Int)) B O (dLrg (dRg2 ta tb)) ρ S (rngI a b) := fun S1 k1 Q q => ha S1 k1 _ fun d S2 k2 r => hb S2 (k1.trans k2) _ fun d' S3 k3 r' => by
  refine ⟨a, b, r, r', ok, ?_⟩
  rw [rngD_e]
  exact new_lst (hc.st ((k1.trans k2).trans k3)) (all2_mk (rngI a b)) (k2.trans k3) q
theorem lst_imp {R R' : Rep α} (h : ∀ S x d, R.r S x d → R'.r S x d) {xs : List α} {d : D} (k : (lst R).r S xs d) : (lst R').r S xs d := by
  obtain ⟨p, ds, h1, h2, h3⟩ := k
  exact ⟨p, ds, h1, h2, All2.imp (fun _ _ => h _ _ _) h3⟩
theorem EN.pv [En α] [En β] {xs : List (α × β)} (h : EN (lst (pr (v α) (v β))) B O t ρ S xs) : EN (lst (v (α × β))) B O t ρ S xs := fun S1 k1 Q q => h S1 k1 Q fun d S2 k2 r f => q d S2 k2 (lst_imp (fun _ _ _ h => pr_v.mp h) r) f
class EnO (α : Type) [En α] where
  lt : α → α → Bool
  depO : Nat
  isd : ∀ (n : Nat) (x : α), depO ≤ n → isD n (e x) = true
  lt_eq : ∀ x y : α, PySem.W.dataLt (pd (e x)) (pd (e y)) = lt x y
  al : ∀ x y : α, PySem.W.alike (pd (e x)) (pd (e y)) = true
  nn : ∀ x : α, pd (e x) ≠ .none
  so : α → Prop
  sorts : ∀ xs : List α, (∀ x ∈ xs, so x) → PySem.W.Sortable (xs.map fun x => pd (e x))
open EnO (lt so depO)
instance : EnO Int := ⟨fun x y => decide (x < y), 0, fun n x _ => by cases n <;> rfl, fun x y => PySem.W.dataLt_int x y, fun _ _ => rfl, (fun _ h => nomatch h), fun _ => True, fun xs _ => .inr fun d hd => by
  obtain ⟨x, _, rfl⟩ := List.mem_map.mp hd
  exact ⟨(fun h => nomatch h), (fun _ h => nomatch h)⟩⟩
instance : EnO (List Int) := ⟨fun x y => decide (x < y), 1, fun n x h => EnD.isd n x h, fun x y => Cf.lt_tI x y, fun x y => by
  show PySem.W.alike (pd (tI x)) (pd (tI y)) = true
  rw [Cf.pd_tI, Cf.pd_tI]; exact PySem.W.alike_ints x y, (fun _ h => nomatch h), fun x => x ≠ [], fun xs h => .inl fun d hd => by
  obtain ⟨x, hx, rfl⟩ := List.mem_map.mp hd
  show ∃ y r, pd (tI x) = .tuple (y :: r)
  rw [Cf.pd_tI]
  cases x with
  | nil => exact absurd rfl (h _ hx)
  | cons k r => exact ⟨_, _, rfl⟩⟩
theorem lt_eqv {α : Type} [En α] [DecidableEq α] [EnD α] (x y : α) : PyData.eqv (pd (e x)) (pd (e y)) = decide (x = y) := EnD.eqd x y
instance {α β : Type} [En α] [DecidableEq α] [EnD α] [EnO α] [En β] [DecidableEq β] [EnD β] [EnO β] : EnO (α × β) := ⟨fun x y => if x.1 = y.1 then lt x.2 y.2 else lt x.1 y.1, max (depO α) (depO β) + 1, fun n x h => by
  cases n with
  | zero => omega
  | succ n =>
    show (isD n (e x.1) && (isD n (e x.2) && true)) = true
    rw [EnO.isd n x.1 (by omega), EnO.isd n x.2 (by omega)]; rfl, fun x y => by
  show PySem.W.dataLt (.tuple [pd (e x.1), pd (e x.2)]) (.tuple [pd (e y.1), pd (e y.2)]) = _
  rw [PySem.W.dataLt_pair (EnO.al _ _) (EnO.al _ _), lt_eqv, lt_eqv, EnO.lt_eq, EnO.lt_eq]
  by_cases h : x.1 = y.1
  · rw [decide_eq_true h, if_pos rfl, if_pos h]
    by_cases h2 : x.2 = y.2
    · rw [decide_eq_true h2, if_pos rfl, h2, ← EnO.lt_eq, dataLt_irr]
    · rw [decide_eq_false h2, if_neg Bool.false_ne_true]
  · rw [decide_eq_false h, if_neg Bool.false_ne_true, if_neg h], fun x y => by
  show (PySem.W.alike (pd (e x.1)) (pd (e y.1)) && (PySem.W.alike (pd (e x.2)) (pd (e y.2)) && PySem.W.alikeAll [] [])) = true
  rw [EnO.al, EnO.al]; rfl, (fun _ h => nomatch h), fun _ => True, fun xs _ => .inl fun d hd => by
  obtain ⟨x, _, rfl⟩ := List.mem_map.mp hd
  exact ⟨_, _, rfl⟩⟩
def sortE [En α] [EnO α] (xs : List α) : List α := xs.mergeSort fun a b => !lt b a
theorem leD_e [En α] [EnO α] (a b : α) : leD (e a) (e b) = !lt b a := by
  show (!PySem.W.dataLt (pd (e b)) (pd (e a))) = _
  rw [EnO.lt_eq]
theorem sort_e [En α] [EnO α] (xs : List α) : (xs.map e).mergeSort leD = (sortE xs).map e := by
  unfold sortE
  have key := List.map_mergeSort (r := fun a b : α => !lt b a) (s := leD) (f := e) (l := xs) (fun a _ b _ => (leD_e a b).symm)
  exact key.symm
theorem sort_ok [En α] [EnO α] {xs : List α} (hl : xs.length ≤ sizeLine) (hs : ∀ x ∈ xs, so x) (h : depO α ≤ 30 := by decide) : SortOk (xs.map e) := by
  refine ⟨isDs_e (fun z => EnO.isd 30 z h) xs, fun d hd d' hd' => ?_, ?_, by rw [List.length_map]; exact hl⟩
  · rw [pds_map, List.map_map] at hd hd'
    obtain ⟨x, _, rfl⟩ := List.mem_map.mp hd
    obtain ⟨y, _, rfl⟩ := List.mem_map.mp hd'
    exact EnO.al x y
  · rw [pds_map, List.map_map]
    exact EnO.sorts xs hs
end
end TY
set_option Elab.async false
set_option linter.all false
set_option maxRecDepth 100000
set_option maxHeartbeats 4000000
namespace TY
open PySem DL L2 Ca Cb Cc
open En (e)
open EnD (dep)
def wAp {α : Type} (K : α → Prop) (x : α) : Prop := K x
def wIf (c : Bool) (A B : Prop) : Prop := if c = true then A else B
def wJoin {σ : Type} (K : σ → Prop) (f : (σ → Prop) → Prop) : Prop := f K
def wFor {α σ : Type} : List α → σ → (α → σ → (σ → Prop) → Prop) → (σ → Prop) → Prop
  | [], s, _, K => K s
  | x :: r, s, b, K => b x s fun s' => wFor r s' b K
def wLoop {σ : Type} (turn : σ → (σ → Prop) → Prop) (s : σ) : Prop := ∃ I : Nat → σ → Prop, (∃ m, I m s) ∧ ∀ m s, I m s → turn s fun s' => ∃ m', m' < m ∧ I m' s'
def wDraw {α : Type} (P : α → Prop) (K : α → Prop) : Prop := ∀ v, P v → K v
def wRes {α : Type} (r : Except Exc α) (K : α → Prop) (E : Exc → Prop) : Prop := match r with
  | .ok x => K x
  | .error x => E x
theorem wIf_t {c : Bool} {A B : Prop} (h : wIf c A B) (e : c = true) : A := by unfold wIf at h; rwa [if_pos e] at h
theorem wIf_f {c : Bool} {A B : Prop} (h : wIf c A B) (e : c = false) : B := by unfold wIf at h; rwa [if_neg (by rw [e]; exact Bool.false_ne_true)] at h
theorem wFor_of {α σ : Type} {xs : List α} {s : σ} {b : α → σ → (σ → Prop) → Prop} {K : σ → Prop} (I : List α → σ → Prop) (h0 : I [] s)
    (turn : ∀ pre x post s (next : σ → Prop), xs = pre ++ x :: post → I pre s → (∀ s', I (pre ++ [x]) s' → next s') → b x s next) (done : ∀ s, I xs s → K s) : wFor xs s b K := by
  have key : ∀ (post pre : List α) (s : σ), xs = pre ++ post → I pre s → wFor post s b K := by
    intro post
    induction post with
    | nil =>
      intro pre s e h
      rw [List.append_nil] at e
      subst e
      exact done s h
    | cons x r ih =>
      intro pre s e h
      exact turn pre x r s _ e h fun s' h' => ih (pre ++ [x]) s' (by rw [e, List.append_assoc]; rfl) h'
  exact key xs [] s rfl h0
section
variable {α β γ σ τ : Type} {R : Rep α} {R' : Rep β} {B O O' : List Addr} {t ta tb tc te : DE} {ρ : Nv} {S S' S0 : Sto} {x : α} {N : DEnds} {u w : DS}
def fr (S : Sto) (R : Rep α) : Rep α := ⟨fun S' x d => R.r S' x d ∧ Fr S d, fun k h => ⟨R.mono k h.1, h.2⟩⟩
theorem EN.fr {x : α} (h : EN R B O t ρ S x) (hc : Cx B O S) : ED (fr S R) B O t ρ S x := fun S1 k1 Q q => h S1 k1 Q fun d S2 k2 r f => q d S2 k2 ⟨r, f.of (hc.st k1) k1⟩
theorem ea_nil : EA RepL.nil B O dNil ρ S () := fun S1 k1 Q q => q [] S1 (St.refl _ _) rfl
theorem ea_cons {T : RepL τ} {v : DA} {xs : τ} (h : ED R B O t ρ S x) (hr : EA T B O v ρ S xs) : EA (RepL.cons R T) B O (dCons t v) ρ S (x, xs) := fun S1 k1 Q q => h S1 k1 _ fun d S2 k2 r => hr S2 (k1.trans k2) _ fun ds S3 k3 a => q _ S3 (k2.trans k3) ⟨d, ds, rfl, R.mono (ct_st k3) r, a⟩
def spW {τ α : Type} (T : RepL τ) (R : Rep α) (W : τ → (α → Prop) → (Exc → Prop) → Prop) : FSp := fun ds S Q EP => ∃ O x, Cx [] O S ∧ T.r (ct [] O S) x ds ∧
  W x (fun v => ∀ d S', Ext S S' → R.r (ct [] O S') v d → Q d S') (fun er => ∀ S', Ext S S' → EP er S')
def spN {τ α : Type} (T : RepL τ) (R : Rep α) (W : τ → (α → Prop) → (Exc → Prop) → Prop) : FSp := fun ds S Q EP => ∃ O x, Cx [] O S ∧ T.r (ct [] O S) x ds ∧
  W x (fun v => ∀ d S', Ext S S' → R.r (ct [] O S') v d → Fr S d → Q d S') (fun er => ∀ S', Ext S S' → EP er S')
theorem Cx.app (h : Cx B O S) : Cx [] (O ++ B) S := ⟨fun _ m => by simp at m, fun b m => by
  refine ⟨by simp, fun z => ?_⟩
  rcases List.mem_append.mp m with m | m
  · exact (h.o b m).2 z
  · obtain ⟨c, _, _, _, _, k, _⟩ := h.b b m
    rw [k] at z; cases z⟩
theorem ed_call {T : RepL τ} {W : τ → (α → Prop) → (Exc → Prop) → Prop} {EX : EXn} {v : DA} {xs : τ} {y : α} (hc : Cx B O S) (ha : EA T B O v ρ S xs) (hw : ∀ K E, K y → W xs K E) : ED R B O (dFn (spW T R W) EX v) ρ S y :=
  fun S1 k1 Q q => ha S1 k1 _ fun ds S2 k2 a => ⟨O ++ B, xs, (hc.st (k1.trans k2)).app, by rw [ct_app]; exact a, hw _ _ fun d S3 k3 r => q d S3 (k2.trans (St.of k3)) (by rw [ct_app] at r; exact r)⟩
theorem en_call {T : RepL τ} {W : τ → (α → Prop) → (Exc → Prop) → Prop} {EX : EXn} {v : DA} {xs : τ} {y : α} (hc : Cx B O S) (ha : EA T B O v ρ S xs) (hw : ∀ K E, K y → W xs K E) : EN R B O (dFn (spN T R W) EX v) ρ S y :=
  fun S1 k1 Q q => ha S1 k1 _ fun ds S2 k2 a => ⟨O ++ B, xs, (hc.st (k1.trans k2)).app, by rw [ct_app]; exact a, hw _ _ fun d S3 k3 r f => q d S3 (k2.trans (St.of k3)) (by rw [ct_app] at r; exact r) (f.of (hc.st (k1.trans k2)) k2)⟩
theorem st_asg [En α] {i : Nat} {x : α} {K : α → Prop} (E : EI B te ρ S x) (h : wAp K x) (k : ∀ v S1, St B S S1 → K v → N.nx (ρ.set i (some (e v))) S1) : dAsg te (gSet i) N ρ S :=
  E S (St.refl _ _) _ fun d S1 k1 r => by cases r; exact k x S1 k1 h
theorem st_asgG [En α] {g : DG} {x : α} {K : α → Prop} {ρ' : α → Nv} (E : EI B te ρ S x) (hg : ∀ v, EG g ρ (e v) (ρ' v)) (h : wAp K x) (k : ∀ v S1, St B S S1 → K v → N.nx (ρ' v) S1) : dAsg te g N ρ S :=
  E S (St.refl _ _) _ fun d S1 k1 r => by cases r; exact hg x S1 _ (k x S1 k1 h)
theorem st_asgC {i : Nat} {x : α} {K : α → Prop} (E : ED R B O te ρ S x) (h : wAp K x) (k : ∀ v d S1, St B S S1 → R.r (ct B O S1) v d → K v → N.nx (ρ.set i (some d)) S1) : dAsg te (gSet i) N ρ S :=
  E S (St.refl _ _) _ fun d S1 k1 r => k x d S1 k1 r h
theorem st_par {i j : Nat} {x : α} {y : β} {K : α × β → Prop} (Ea : ED R B O ta ρ S x) (Eb : ED R' B O tb ρ S y) (h : wAp K (x, y)) (k : ∀ v d d' S1, St B S S1 → R.r (ct B O S1) v.1 d → R'.r (ct B O S1) v.2 d' → K v → N.nx ((ρ.set i (some d)).set j (some d')) S1) :
    dPar i j (dCons ta (dCons tb dNil)) N ρ S :=
  Ea S (St.refl _ _) _ fun d S1 k1 r => Eb S1 k1 _ fun d' S2 k2 r' => k (x, y) d d' S2 (k1.trans k2) (R.mono (ct_st k2) r) r' h
theorem st_aug {i : Nat} {f : Int → Int → Int} {a b : Int} {K : Int → Prop} (ha : ρ[i]? = some (some (e a))) (E : EI B te ρ S b) (h : wAp K (f a b)) (k : ∀ v S1, St B S S1 → K v → N.nx (ρ.set i (some (e v))) S1) : dAug (dI2 f) i te N ρ S :=
  ⟨_, ha, E S (St.refl _ _) _ fun d S1 k1 r => by cases r; exact k _ S1 k1 h⟩
theorem st_ret {x : α} {K : α → Prop} (E : ED R B O te ρ S x) (h : wAp K x) (k : ∀ v d S1, St B S S1 → R.r (ct B O S1) v d → K v → N.rt d S1) : dRet te N ρ S :=
  E S (St.refl _ _) _ fun d S1 k1 r => k x d S1 k1 r h
theorem st_if {tc : DT} {c : Bool} {P Q : Prop} (E : EB B tc ρ S c) (h : wIf c P Q) (ht : ∀ S1, St B S S1 → c = true → P → u N ρ S1) (hf : ∀ S1, St B S S1 → c = false → Q → w N ρ S1) : dIfS tc u w N ρ S :=
  E S (St.refl _ _) _ fun S1 k1 => by
    cases c with
    | true => exact ht S1 k1 rfl (wIf_t h rfl)
    | false => exact hf S1 k1 rfl (wIf_f h rfl)
theorem forD_w {Ri : Rep α} {g : DG} {tb : DS} {chk : Sto → Prop} (A : σ → Nv → Sto → Prop) {S2 : Sto} (hchk : ∀ S3, Ext (ct B O S2) (ct B O S3) → chk S3) (lnk : ∀ s ρ1 S1, A s ρ1 S1 → Ext (ct B O S2) (ct B O S1)) {body : α → σ → (σ → Prop) → Prop} {fin : σ → Prop}
    (done : ∀ s ρ1 S1, fin s → A s ρ1 S1 → N.nx ρ1 S1) : ∀ (xs : List α) (es : List D) (s : σ) (ρ1 : Nv) (S1 : Sto),
    (∀ x ∈ xs, ∀ d s (next : σ → Prop) ρ1 S1 (Kx : Nv → Sto → Prop), A s ρ1 S1 → Ri.r (ct B O S1) x d → body x s next → (∀ s' ρ2 S2, next s' → A s' ρ2 S2 → Kx ρ2 S2) → g d ρ1 S1 fun ρ2 S2 => tb { N with nx := Kx, ct := Kx, bk := N.nx } ρ2 S2) →
    All2 (Ri.r (ct B O S2)) xs es → A s ρ1 S1 → wFor xs s body fin → forD chk g tb N es ρ1 S1
  | [], _, s, ρ1, S1, step, .nil, a, h => ⟨hchk S1 (lnk s ρ1 S1 a), done s ρ1 S1 h a⟩
  | x :: xs, _, s, ρ1, S1, step, .cons (y := y) (ys := ys) r t, a, h =>
    ⟨hchk S1 (lnk s ρ1 S1 a), step x (by simp) y s _ ρ1 S1 _ a (Ri.mono (lnk s ρ1 S1 a) r) h fun s' ρ2 S3 h' a' => forD_w A hchk lnk done xs ys s' ρ2 S3 (fun z hz => step z (List.mem_cons_of_mem _ hz)) t a' h'⟩
theorem st_for {Ri : Rep α} {wi : DI} {g : DG} {tb : DS} {xs : List α} {s : σ} {body : α → σ → (σ → Prop) → Prop} {fin : σ → Prop} (A : Sto → σ → Nv → Sto → Prop) (hi : EIt Ri B O wi ρ S xs) (h : wFor xs s body fin)
    (a0 : ∀ S1, St B S S1 → A S1 s ρ S1) (lnk : ∀ S2 s ρ1 S1, A S2 s ρ1 S1 → Ext (ct B O S2) (ct B O S1))
    (step : ∀ S2, St B S S2 → ∀ x ∈ xs, ∀ d s (next : σ → Prop) ρ1 S1 (Kx : Nv → Sto → Prop), A S2 s ρ1 S1 → Ri.r (ct B O S1) x d → body x s next → (∀ s' ρ2 S3, next s' → A S2 s' ρ2 S3 → Kx ρ2 S3) → g d ρ1 S1 fun ρ2 S3 => tb { N with nx := Kx, ct := Kx, bk := N.nx } ρ2 S3)
    (done : ∀ S2 s ρ1 S1, St B S S2 → fin s → A S2 s ρ1 S1 → N.nx ρ1 S1) : dFor wi g tb N ρ S :=
  hi S (St.refl _ _) _ fun ds chk S2 k2 a hchk => forD_w (A S2) hchk (lnk S2) (fun s ρ1 S1 => done S2 s ρ1 S1 k2) xs ds s ρ S2 (step S2 k2) a (a0 S2 k2) h
theorem st_while {c : DT} {tb : DS} {s : σ} {turn : σ → (σ → Prop) → Prop} (A : σ → Nv → Sto → Prop) (a0 : A s ρ S) (h : wLoop turn s)
    (step : ∀ s (next : σ → Prop) ρ1 S1 (Kx : Nv → Sto → Prop), A s ρ1 S1 → turn s next → (∀ s' ρ2 S2, next s' → A s' ρ2 S2 → Kx ρ2 S2) → c ρ1 S1 fun b S2 => if b = true then tb { N with nx := Kx, ct := Kx, bk := N.nx } ρ1 S2 else N.nx ρ1 S2) : dWhile c tb N ρ S := by
  obtain ⟨I, ⟨m, i0⟩, go⟩ := h
  refine ⟨fun m ρ1 S1 => ∃ s, I m s ∧ A s ρ1 S1, ⟨m, s, i0, a0⟩, fun m ρ1 S1 ⟨s, i, a⟩ => ?_⟩
  exact step s _ ρ1 S1 _ a (go m s i) fun s' ρ2 S2 ⟨m', lt, i'⟩ a' => ⟨m', lt, s', i', a'⟩
theorem wh_test {c : DT} {tb : DS} {cc : Bool} {Kx : Nv → Sto → Prop} {P Q : Prop} (E : EB B c ρ S cc) (h : wIf cc P Q) (ht : ∀ S1, St B S S1 → cc = true → P → tb { N with nx := Kx, ct := Kx, bk := N.nx } ρ S1) (hf : ∀ S1, St B S S1 → cc = false → Q → N.nx ρ S1) :
    c ρ S fun b S2 => if b = true then tb { N with nx := Kx, ct := Kx, bk := N.nx } ρ S2 else N.nx ρ S2 := E S (St.refl _ _) _ fun S1 k1 => by
  cases cc with
  | true => exact ht S1 k1 rfl (wIf_t h rfl)
  | false => exact hf S1 k1 rfl (wIf_f h rfl)
theorem ct_mutst {p : Addr} {c : Cell} {S1 : Sto} (m : p ∈ O) (k : St B S S1) : Ext (ct B O S) (ct B O (up1 S1 p c)) := by
  rw [ct_mut m]; exact ct_st k
theorem lst_put {p : Addr} {xs ys : List α} {ds es : List D} {S1 : Sto} (m : p ∉ O) (k : p ∉ B) (a : All2 (R.r (ct B (p :: O) S1)) ys es) : (lst R).r (ct B O (up1 S1 p (.lst es))) ys (.ref p) := by
  refine ⟨p, es, rfl, ?_, All2.imp (fun _ _ h => R.mono ?_ h) a⟩
  · rw [ct_up1 m k]; exact up1_same
  · refine Ext.trans ?_ ct_in
    rw [ct_mut (List.mem_cons_self)]; exact Ext.refl _
theorem st_append {i : Nat} {p : Addr} {xs : List α} {K : List α → Prop} (hi : ρ[i]? = some (some (.ref p))) (hp : (lst R).r (ct B O S) xs (.ref p)) (E : ED R B (p :: O) te ρ S x) (ok : xs.length < sizeLine) (h : wAp K (xs ++ [x]))
    (k : ∀ v S1 c, St B S S1 → (lst R).r (ct B O (up1 S1 p c)) v (.ref p) → K v → N.nx ρ (up1 S1 p c)) : dDrop (dBM "list" dAppend (dVar i) (dCons te dNil)) N ρ S := by
  obtain ⟨q, ds, eq, hq, m, kb, a⟩ := lst_at hp
  cases eq
  refine ⟨_, hi, ⟨rfl, ds, hq⟩, E S (St.refl _ _) _ fun d S1 k1 r => ?_⟩
  refine ⟨ds, k1.keep _ _ kb hq, by rw [all2_len a]; exact ok, ?_⟩
  exact k _ S1 _ k1 (lst_put (xs := xs) (ds := ds) m kb (all2_app (all2_st k1 a) (.cons r .nil))) h
theorem all2_set {R : α → D → Prop} {x : α} {d : D} (r : R x d) : ∀ {xs : List α} {ds : List D} (n : Nat), All2 R xs ds → All2 R (xs.set n x) (ds.set n d)
  | _, _, _, .nil => .nil
  | _, _, 0, .cons _ t => .cons r t
  | _, _, n + 1, .cons q t => .cons q (all2_set r n t)
theorem st_setL {i : Nat} {p : Addr} {xs : List α} {kk : Int} {ti : DE} {K : List α → Prop} (hi : ρ[i]? = some (some (.ref p))) (hp : (lst R).r (ct B O S) xs (.ref p)) (E : ED R B (p :: O) te ρ S x) (Ei : EI B ti ρ S kk) (ok : 0 ≤ kk ∧ kk < xs.length) (h : wAp K (xs.set kk.toNat x))
    (k : ∀ v S1 c, St B S S1 → (lst R).r (ct B O (up1 S1 p c)) v (.ref p) → K v → N.nx ρ (up1 S1 p c)) : dAsg te (gSub dSetL (dVar i) ti) N ρ S := by
  obtain ⟨q, ds, eq, hq, m, kb, a⟩ := lst_at hp
  cases eq
  refine E S (St.refl _ _) _ fun d S1 k1 r => ⟨_, hi, Ei S1 k1 _ fun d' S2 k2 r' => ?_⟩
  cases r'
  refine ⟨ds, kk.toNat, (k1.trans k2).keep _ _ kb hq, ?_, ?_⟩
  · have := all2_len a
    obtain ⟨n, rfl⟩ := Int.eq_ofNat_of_zero_le ok.1
    rw [Int.toNat_natCast]; exact ixn (by omega)
  · exact k _ S2 _ (k1.trans k2) (lst_put (xs := xs) (ds := ds) m kb (all2_set (R.mono (ct_st k2) r) _ (all2_st (k1.trans k2) a))) h
end
end TY
set_option Elab.async false
set_option linter.all false
set_option maxRecDepth 100000
set_option maxHeartbeats 4000000
namespace TY
open PySem DL L2 Ca Cb Cc
open En (e)
open EnD (dep)
theorem szl {n : Nat} (h : n ≤ 1000) : n ≤ sizeLine := Nat.le_trans h (by decide)
theorem seq_i {t u : DS} {N : DEnds} {ρ : Nv} {S : Sto} (h : t { N with nx := u N } ρ S) : dSeq t u N ρ S := h
section
variable {α β γ σ τ : Type} {R : Rep α} {R' : Rep β} {B O O' : List Addr} {t ta tb tc te : DE} {ρ : Nv} {S S' S0 : Sto} {x : α} {N : DEnds} {u w : DS}
theorem ED.lo [En α] {xs : List α} (hc : Cx B O' S) (h : EN (lst (v α)) B O t ρ S xs) : EN (lst (v α)) B O' t ρ S xs := fun S1 k1 Q q => h S1 k1 Q fun d S2 k2 r f => by
  obtain ⟨p, rfl, h2⟩ := lst_is (S' := S2) r
  obtain ⟨p', e1, n⟩ := f
  cases e1
  exact q _ S2 k2 (lst_v.mpr ⟨p, rfl, ct_at.mpr ⟨⟨(hc.st k1).newO n, (hc.st k1).newB n⟩, h2⟩⟩) ⟨p, rfl, n⟩
theorem en_add {xs ys : List α} (hc : Cx B O S) (ha : ED (lst R) B O ta ρ S xs) (hb : ED (lst R) B O tb ρ S ys) (ok : xs.length + ys.length ≤ sizeLine) : EN (lst R) B O (dOp dAdd ta tb) ρ S (xs ++ ys) :=
  fun S1 k1 Q q => ha S1 k1 _ fun d S2 k2 r => hb S2 (k1.trans k2) _ fun d' S3 k3 r' => by
    obtain ⟨p, ds, rfl, hp, m, k, a⟩ := lst_at r
    obtain ⟨p', es, rfl, hp', m', k', a'⟩ := lst_at r'
    exact ⟨ds, es, k3.keep _ _ k hp, hp', by rw [all2_len a, all2_len a']; exact ok, new_lst (hc.st ((k1.trans k2).trans k3)) (all2_app (all2_st k3 (all2_ct a)) (all2_ct a')) (k2.trans k3) q⟩
end
end TY
namespace TY
open PySem DL L2 Ca Cb Cc
open En (e)
def exR (C : Sto) : Rep Unit := ⟨fun S _ _ => Ext C S, fun k h => h.trans k⟩
section
variable {α β γ σ τ : Type} {R : Rep α} {R' : Rep β} {B O O' : List Addr} {t ta tb tc te : DE} {ρ : Nv} {S S' S0 : Sto} {x : α} {N : DEnds} {u w : DS}
theorem lst_ne {xs : List α} {p : Addr} (h : (lst R).r (ct B O S) xs (.ref p)) : S p ≠ none := fun z => by
  obtain ⟨q, ds, eq, hq, _⟩ := lst_at h
  cases eq
  rw [hq] at z; cases z
theorem st_join {K : σ → Prop} {f : (σ → Prop) → Prop} (A : σ → Nv → Sto → Prop) (h : wJoin K f) (kj : ∀ s ρ1 S1, K s → A s ρ1 S1 → N.nx ρ1 S1)
    (go : ∀ k : σ → Prop, f k → (∀ s ρ1 S1, k s → A s ρ1 S1 → N.nx ρ1 S1) → u N ρ S) : u N ρ S := go K h kj
theorem ei_chain {f g : Int → Int → Bool} {i j k : Int} (ha : EI B ta ρ S i) (hb : EI B tb ρ S j) (hc : f i j = true → EI B tc ρ S k) : EI B (dChain (dCmpI f) (dCmpI g) ta tb tc) ρ S (f i j && g j k) :=
  fun S1 k1 Q q => ha S1 k1 _ fun d S2 k2 r => hb S2 (k1.trans k2) _ fun d' S3 k3 r' => by
    cases r; cases r'
    refine ⟨f i j, rfl, ?_⟩
    cases e1 : f i j with
    | true =>
      rw [if_pos rfl]
      exact hc e1 S3 ((k1.trans k2).trans k3) _ fun d'' S4 k4 r'' => by
        cases r''
        rw [e1] at q
        exact q _ S4 ((k2.trans k3).trans k4) rfl
    | false =>
      rw [if_neg Bool.false_ne_true]
      rw [e1] at q
      exact q _ S3 (k2.trans k3) rfl
end
end TY
set_option Elab.async false
set_option linter.all false
set_option maxRecDepth 100000
set_option maxHeartbeats 4000000
namespace DL
open PySem PySem.Spec PyProof.Rows L2
section
variable {X : Cx}
end
section
variable {X : Cx} {Z : Zb} {kx vx tg iter : Expr} {ifs : List Expr} {scope : Scope} {own : List (Str × Nat)} {pos spos py : Pos} {wi : DI} {g : DG} {tt : DT} {tk tv : DE} {vs : List Nat}
end
end DL
set_option Elab.async false
set_option linter.all false
set_option maxRecDepth 100000
set_option maxHeartbeats 4000000
namespace DL
open PySem PySem.Spec PyProof.Rows L2
open PySem.W (alike dataLt dataLe AllAlike Sortable EachIs AlikeAll)
section
variable {X : Cx} {K : PySem.W.Frag} {mg : Str → Option Value}
def KeysV (H : Hp) (a : Addr) (P : List V → Prop) : Prop :=
  (∃ kvs : List (L2.Key × V), Rd H a (.dK kvs) ∧ P (kvs.map fun p => kV p.1)) ∨ ∃ kvs : List (List L2.Key × V), Rd H a (.dT kvs) ∧ ∀ bs, IsKeys H kvs bs → P (bs.map V.ref)
def dkKeys (S : Sto) (a : Addr) (P : List D → Prop) : Prop :=
  (∃ kvs, S a = some (.dK none kvs) ∧ P (kvs.map fun p => keyD p.1)) ∨ ∃ kvs, S a = some (.dT none kvs) ∧ P (kvs.map fun p => .tup (p.1.map keyD))
theorem isKeys_rp {H : Hp} : ∀ {kvs : List (List L2.Key × D)} {ws : List (List L2.Key × V)} {bs : List Addr}, KR K mg H kvs ws → IsKeys H ws bs → RpL K mg H (kvs.map fun p => .tup (p.1.map keyD)) (bs.map V.ref)
  | _, _, _, .nil, .nil => .nil
  | _, _, _, .cons h t, .cons h' t' => .cons (by show Rp K mg H (.tup (List.map keyD _)) _; rw [h.1]; exact .tup h' (rp_keysD _)) (isKeys_rp t t')
theorem keys_rp {H : Hp} : ∀ {kvs : List (L2.Key × D)} {ws : List (L2.Key × V)}, KR K mg H kvs ws → RpL K mg H (kvs.map fun p => keyD p.1) (ws.map fun p => kV p.1)
  | _, _, .nil => .nil
  | _, _, .cons h t => .cons (by show Rp K mg H (keyD _) (kV _); rw [h.1]; exact rp_keyD _) (keys_rp t)
theorem keysV_of {S : Sto} {H : Hp} {a : Addr} {P : List D → Prop} {Q : List V → Prop} (s : StO K mg S H) (h : dkKeys S a P) (k : ∀ ds xs, RpL K mg H ds xs → P ds → Q xs) : KeysV H a Q := by
  rcases h with ⟨kvs, e, p⟩ | ⟨kvs, e, p⟩
  · obtain ⟨u, ws, q, l, kr⟩ := s.dK e
    cases (show u = _ from l)
    exact .inl ⟨ws, .inl q, k _ _ (keys_rp kr) p⟩
  · obtain ⟨u, ws, q, l, kr⟩ := s.dT e
    cases (show u = _ from l)
    exact .inr ⟨ws, .inl q, fun bs ib => k _ _ (isKeys_rp kr ib) p⟩
theorem isKeys_len {H : Hp} : ∀ {kvs : List (List L2.Key × V)} {bs : List Addr}, IsKeys H kvs bs → bs.length = kvs.length
  | _, _, .nil => rfl
  | _, _, .cons _ t => congrArg (· + 1) (isKeys_len t)
theorem keysV_raw {pins : List (Addr × Obj)} {σ : L2.St} {H : Hp} {s : Shared} {a : Addr} {P : List V → Prop} (I : Inv X pins σ H s) (h : KeysV H a P) :
    ∃ xs es ep, P xs ∧ (a == sysModules) = false ∧ s.heap.DictRaw a es ep ∧ es.size = xs.length ∧ xs.length ≤ sizeLine ∧ ∀ (i : Nat) (hi : i < es.size), ∃ x, xs[i]? = some x ∧ RelV x es[i].key := by
  rcases h with ⟨kvs, e, p⟩ | ⟨kvs, e, p⟩
  · obtain ⟨z, lo, vs, rel, dd⟩ := dk_rd I.hok e
    obtain ⟨es, ep, raw, hz, at_⟩ := dd.raw
    have hl := rel.length
    refine ⟨_, es, ep, p, lo, raw, by rw [List.length_map, hz, hl], by rw [List.length_map]; exact z, fun i hi => ?_⟩
    have hv : i < vs.length := by omega
    obtain ⟨⟨k, u⟩, ek⟩ : ∃ q, vs[i]? = some q := ⟨_, List.getElem?_eq_getElem hv⟩
    have e2 : (kvs.map (·.1))[i]? = some k := by
      rw [rel.keys, List.getElem?_map, ek]; rfl
    refine ⟨kV k, ?_, keyIs_rel (at_ i hi k u ek).1⟩
    rw [List.getElem?_map] at e2 ⊢
    cases e3 : kvs[i]? with
    | none => rw [e3] at e2; cases e2
    | some q => rw [e3] at e2; cases e2; rfl
  · obtain ⟨z, lo, xs, rel, dd⟩ := dt_rd I.hok e
    obtain ⟨es, ep, raw, hz, at_⟩ := dd.raw
    have ib := isKeys_of rel
    refine ⟨_, es, ep, p _ ib, lo, raw, by rw [List.length_map, List.length_map, hz], by rw [List.length_map, isKeys_len ib]; exact z, fun i hi => ?_⟩
    obtain ⟨y, e1, e2, _, _⟩ := at_ i hi
    refine ⟨.ref y.2.1, ?_, e2⟩
    rw [List.getElem?_map, List.getElem?_map, e1]; rfl
theorem vals_keys {xs : List V} {es : Array DictEntry} {acc : Array Value} (hz : es.size = xs.length) (at_ : ∀ (i : Nat) (hi : i < es.size), ∃ x, xs[i]? = some x ∧ RelV x es[i].key) (h : ItemsOf (fun i v => ∃ hi : i < es.size, v = es[i].key) acc es.size) : Vals xs acc.toList := by
  refine vals_of_at (by rw [Array.length_toList]; exact (h.1.trans hz).symm) fun j x u ex eu => ?_
  obtain ⟨hi, rfl⟩ := h.2 j u (by rw [← Array.getElem?_toList]; exact eu)
  obtain ⟨y, e1, r⟩ := at_ j hi
  rw [ex] at e1
  cases e1
  exact r
def rSortK (K : PySem.W.Frag) : List V → Hp → VK → Prop := fun vs H Q => ∃ a : Addr, vs = [V.ref a] ∧ KeysV H a fun xs => ∃ ps : List PyData, DpAll K H xs ps ∧ xs.length = ps.length ∧ AllAlike ps ∧ Sortable ps ∧ (∀ d ∈ ps, d.depth ≤ 30) ∧
  ∀ p, H p = none → Q (.ref p) (upd H p (.lst (((xs.zip ps).mergeSort (dataLe false (·.2))).map (·.1))))
theorem cr_sortK (hc : X.calm = true) (hu : X.A.units + 64 < cLine) : CallR X (.builtin "sorted") (rSortK X.K) := by
  intro pins s σ H vs us Q I r ⟨a, hv, h⟩
  subst hv
  rw [Vals.ref1 r]
  obtain ⟨xs, es, ep, ⟨ps, hd, hl, ha, hk, dp, q⟩, lo, raw, hz, hzl, at_⟩ := keysV_raw I h
  refine Calls.call_function_entry PyProof.Rows.kind_sorted PyProof.Rows.plain_sorted PyProof.Rows.entry_sorted (PyProof.Rows.args_sorted1 _) ?_
  unfold Builtin.«sorted»
  refine wpAny_bind (m := checkCount "sorted" 1 1 _) (wpAny_pure ?_)
  refine wpAny_bind (PySem.W.kdu_collect (A := X.A.in1) (KdlSrc.rawDict (prog := X.prog) (w := X.w) (es := es) (ep := ep) lo) (I.ok.hd hc) raw (by omega) fun hp tk acc hkeep hacc => ?_)
  have rv := vals_keys hz at_ hacc
  have I1 : Inv X pins σ H { s with heap := hp, toks := tk } := I.kept hkeep
  obtain ⟨as, ra⟩ := Dp.readsAll I1 ps xs acc.toList hd rv
  have lacc : acc.toList.length = xs.length := rv.length.symm
  refine wpAny_bind (wpAny_newList ?_ (by omega))
  have hoL : (hp.push (seqObj "list" acc.toList.toArray 0)).get? hp.objs.size = some (seqObj "list" acc.toList.toArray 0) := Heap.get?_push_size _ rfl
  show wpAny _ _ _ _ _ { s with heap := hp.push (seqObj "list" acc.toList.toArray 0), toks := tk }
  have em : (xs.zip ps).map (·.2) = ps := List.map_snd_zip (by omega)
  have er : EachIs (fun v (b : V × PyData) => ∃ as, Reads hp v b.2 as) acc.toList (xs.zip ps) := each_reads hl ra
  have stay : ∀ (b : Addr) (o : Obj), hp.get? b = some o → (PySem.W.sortingHeap (hp.push (seqObj "list" acc.toList.toArray 0)) hp.objs.size acc.toList).get? b = some o := fun b o eb =>
    PySem.W.sortingHeap_old (Nat.ne_of_lt (Heap.lt_size eb)) (Heap.get?_push_of_some _ eb)
  have er2 : EachIs (fun v (b : V × PyData) => ∃ as, Reads (PySem.W.sortingHeap (hp.push (seqObj "list" acc.toList.toArray 0)) hp.objs.size acc.toList) v b.2 as) acc.toList (xs.zip ps) := er.mono fun _ _ ⟨as, r⟩ => ⟨as, PyProof.Rows.Reads.keeps stay r⟩
  have al2 : AllAlike ((xs.zip ps).map (·.2)) := by rw [em]; exact ha
  have so2 : Sortable ((xs.zip ps).map (·.2)) := by rw [em]; exact hk
  refine wpAny_bind (wpAny_holding (wpAny_call_entry PyProof.Rows.slot_list_sort ⟨_, hoL, rfl⟩ PyProof.Rows.entry_list_sort
    (PySem.W.list_sort_vals (s := { s with heap := hp.push (seqObj "list" acc.toList.toArray 0), toks := tk }) (κ := PySem.W.dataKind (PySem.W.sortingHeap (hp.push (seqObj "list" acc.toList.toArray 0)) hp.objs.size acc.toList) ((xs.zip ps).map (·.2))) hoL
      (PySem.W.SortsAt.data (s := { s with heap := PySem.W.sortingHeap (hp.push (seqObj "list" acc.toList.toArray 0)) hp.objs.size acc.toList, toks := tk }) (PySem.W.each_map (R := fun v d => ∃ as, Reads (PySem.W.sortingHeap (hp.push (seqObj "list" acc.toList.toArray 0)) hp.objs.size acc.toList) v d as) (fun b : V × PyData => b.2) er2) al2 so2 (fun d m => ?_)) (by omega) ⟨.none, rfl, ?_⟩) (PyProof.Rows.args_list_sort _)))
  · rw [em] at m
    have := dp d m
    show X.A.units + 2 + d.depth < cLine
    omega
  · have h2 := PySem.W.sortVals_data (R := fun (v : Value) (b : V × PyData) => RelV b.1 v) false (each_zip rv hl) er2 al2
    have lo2 : (PySem.W.sortVals (PySem.W.dataKind (PySem.W.sortingHeap (hp.push (seqObj "list" acc.toList.toArray 0)) hp.objs.size acc.toList) ((xs.zip ps).map (·.2))) false acc.toList acc.toList).length = acc.toList.length := PySem.W.sortVals_length false rfl
    obtain ⟨e', he'⟩ := PyProof.Rows.sortedHeap_at (vs := acc.toList) (out := (PySem.W.sortVals (PySem.W.dataKind (PySem.W.sortingHeap (hp.push (seqObj "list" acc.toList.toArray 0)) hp.objs.size acc.toList) ((xs.zip ps).map (·.2))) false acc.toList acc.toList).toArray) hoL
    have hv := vals_each h2
    have hlen : ((List.mergeSort (xs.zip ps) (dataLe false (·.2))).map (·.1)).length ≤ sizeLine := by
      rw [List.length_map, List.length_mergeSort, List.length_zip]; omega
    refine wpAny_pure ⟨_, rfl, .ref hp.objs.size, upd H hp.objs.size (.lst ((List.mergeSort (xs.zip ps) (dataLe false (·.2))).map (·.1))), I1.laid (t' := tk) (fun b u eb => ?_) (Nat.le_refl _) ⟨hlen, _, e', hv, he'⟩, rfl, q _ (I1.hok.fresh (Nat.le_refl _))⟩
    have hb : b < hp.objs.size := Heap.lt_size eb
    rw [PyProof.Rows.sortedHeap_old (Nat.ne_of_lt hb) (by rw [size_push']; exact Nat.lt_succ_of_lt hb)]
    exact Heap.get?_push_of_some _ eb
end
section
variable {X : Cx} {K : PySem.W.Frag} {mg : Str → Option Value}
def dSortK : DN := fun xs S Q => a1 xs fun x => ∃ a, x = .ref a ∧ dkKeys S a fun ds => SortOk ds ∧ ∀ p, S p = none → Q (.ref p) (up1 S p (.lst (ds.mergeSort leD)))
theorem sortK_ok : OpN K mg (rSortK K) dSortK := by
  intro S H xs vs P Q s rx h k
  obtain ⟨x, v, rfl, rfl, r, a, rfl, g⟩ := a1_of rx h
  cases r
  refine ⟨a, rfl, keysV_of s g fun ds ws rl ⟨ok, h⟩ => ?_⟩
  have hl := rl.length
  have hp : (pds ds).length = ds.length := by rw [pds_map, List.length_map]
  refine ⟨pds ds, dps_of s ok.is rl, by omega, ok.al, ok.so, depth_of ok.is, fun p free => ?_⟩
  obtain ⟨e1, e2⟩ := sort_zip ds ws hl
  rw [e1]
  refine k _ _ _ _ (Tr.laid free) (s.laid free (.lst ?_)) (.ref p) (h p (s.free free))
  rw [e2]
  exact rpL_zip fun t m => zip_rp rl t ((List.mergeSort_perm _ _).mem_iff.mp m)
def dSortA : DN := fun xs S Q => dSortD xs S Q ∨ dSortK xs S Q
theorem cr_sortA (hc : X.calm = true) (hu : X.A.units + 64 < cLine) : CallR X (.builtin "sorted") (fun xs H Q => rSortedA X.K xs H Q ∨ rSortK X.K xs H Q) := (cr_sortedA hu).or (cr_sortK hc hu)
theorem sortA_ok : OpN K mg (fun xs H Q => rSortedA K xs H Q ∨ rSortK K xs H Q) dSortA := fun S H xs vs P Q s rx h k => h.imp (fun h => sortD_ok S H xs vs P Q s rx h k) (fun h => sortK_ok S H xs vs P Q s rx h k)
def dLenK : DN := fun xs S Q => a1 xs fun x => ∃ a, x = .ref a ∧ ((∃ kvs, S a = some (.dK none kvs) ∧ Q (.int (kvs.length : Nat)) S) ∨ ∃ kvs, S a = some (.dT none kvs) ∧ Q (.int (kvs.length : Nat)) S)
def rLenK : List V → Hp → VK → Prop := fun xs H Q => (∃ a kvs, xs = [V.ref a] ∧ H a = some (.dK kvs) ∧ Q (.int kvs.length) H) ∨ rLenT xs H Q
theorem cr_lenK : CallR X (.builtin "len") rLenK := call_lenD.or call_len_dT
theorem lenK_ok : OpN K mg rLenK dLenK := by
  intro S H xs vs P Q s rx h k
  obtain ⟨x, v, rfl, rfl, r, a, rfl, g⟩ := a1_of rx h
  cases r
  rcases g with ⟨kvs, e, p⟩ | ⟨kvs, e, p⟩
  · obtain ⟨u, ws, q, l, kr⟩ := s.dK e
    cases (show u = _ from l)
    exact .inl ⟨a, ws, rfl, q, by rw [← kr.length]; exact k.now s (.int _) p⟩
  · obtain ⟨u, ws, q, l, kr⟩ := s.dT e
    cases (show u = _ from l)
    exact .inr ⟨a, ws, rfl, q, by rw [← kr.length]; exact k.now s (.int _) p⟩
def dLenA : DN := fun xs S Q => dLen xs S Q ∨ dLenK xs S Q
theorem cr_lenA : CallR X (.builtin "len") (fun xs H Q => rLenA X.K xs H Q ∨ rLenK xs H Q) := cr_len.or cr_lenK
theorem lenA_ok : OpN K mg (fun xs H Q => rLenA K xs H Q ∨ rLenK xs H Q) dLenA := fun S H xs vs P Q s rx h k => h.imp (fun h => len_ok S H xs vs P Q s rx h k) (fun h => lenK_ok S H xs vs P Q s rx h k)
end
end DL
set_option Elab.async false
set_option linter.all false
set_option maxRecDepth 100000
set_option maxHeartbeats 4000000
namespace TY
open PySem DL L2 Ca Cb Cc
open En (e)
open EnD (dep)
section
variable {κ : Type} [DecidableEq κ] {α : Type}
def dget (kvs : List (κ × α)) (k : κ) : Option α := (kvs.find? fun p => decide (p.1 = k)).map (·.2)
def dput (kvs : List (κ × α)) (k : κ) (x : α) : List (κ × α) := if (kvs.any fun p => decide (p.1 = k)) = true then kvs.map (fun p => if p.1 = k then (p.1, x) else p) else kvs ++ [(k, x)]
theorem dget_nil (k : κ) : dget ([] : List (κ × α)) k = none := rfl
theorem dget_cons (p : κ × α) (r : List (κ × α)) (k : κ) : dget (p :: r) k = if p.1 = k then some p.2 else dget r k := by
  unfold dget
  rw [List.find?_cons]
  by_cases h : p.1 = k
  · rw [decide_eq_true h, if_pos h]; rfl
  · rw [decide_eq_false h, if_neg h]
theorem any_dget (k : κ) : ∀ kvs : List (κ × α), (kvs.any fun p => decide (p.1 = k)) = (dget kvs k).isSome
  | [] => rfl
  | p :: r => by
    rw [List.any_cons, any_dget k r, dget_cons]
    by_cases h : p.1 = k <;> simp [h]
theorem dget_map (k j : κ) (x : α) : ∀ kvs : List (κ × α), dget (kvs.map fun p => if p.1 = k then (p.1, x) else p) j = (dget kvs j).map fun y => if j = k then x else y
  | [] => rfl
  | p :: r => by
    rw [List.map_cons, dget_cons, dget_cons, dget_map k j x r]
    by_cases h : p.1 = k
    · rw [if_pos h]
      by_cases h2 : p.1 = j
      · rw [if_pos h2, if_pos h2, Option.map_some, if_pos (h2.symm.trans h)]
      · rw [if_neg h2, if_neg h2]
    · rw [if_neg h]
      by_cases h2 : p.1 = j
      · rw [if_pos h2, if_pos h2, Option.map_some, if_neg (fun z => h (h2.trans z))]
      · rw [if_neg h2, if_neg h2]
theorem dget_app (k j : κ) (x : α) : ∀ kvs : List (κ × α), dget (kvs ++ [(k, x)]) j = (dget kvs j).or (if k = j then some x else none)
  | [] => by rw [List.nil_append, dget_cons, dget_nil]; rfl
  | p :: r => by
    rw [List.cons_append, dget_cons, dget_cons, dget_app k j x r]
    split <;> simp
theorem dget_put (kvs : List (κ × α)) (k j : κ) (x : α) : dget (dput kvs k x) j = if j = k then some x else dget kvs j := by
  unfold dput
  rw [any_dget]
  cases h : dget kvs k with
  | none =>
    rw [Option.isSome_none, if_neg Bool.false_ne_true, dget_app]
    by_cases e1 : j = k
    · subst e1; simp [h]
    · rw [if_neg (fun z => e1 z.symm), if_neg e1]; simp
  | some y =>
    rw [Option.isSome_some, if_pos rfl, dget_map]
    by_cases e1 : j = k
    · subst e1; rw [h, if_pos rfl]; simp
    · rw [if_neg e1]
      cases dget kvs j <;> simp [e1]
theorem dput_keys (kvs : List (κ × α)) (k : κ) (x : α) : (dput kvs k x).map (·.1) = if (dget kvs k).isSome = true then kvs.map (·.1) else kvs.map (·.1) ++ [k] := by
  unfold dput
  rw [any_dget]
  split
  · rw [List.map_map]
    refine List.map_congr_left fun p _ => ?_
    show (if p.1 = k then (p.1, x) else p).1 = p.1
    split <;> rfl
  · rw [List.map_append]; rfl
theorem dget_isSome {kvs : List (κ × α)} {k : κ} : (dget kvs k).isSome = true ↔ k ∈ kvs.map (·.1) := by
  rw [← any_dget, List.any_eq_true]
  simp only [decide_eq_true_eq, List.mem_map]
theorem dput_nodup {kvs : List (κ × α)} (h : (kvs.map (·.1)).Nodup) (k : κ) (x : α) : ((dput kvs k x).map (·.1)).Nodup := by
  rw [dput_keys]
  split
  · exact h
  · rename_i h2
    refine List.nodup_append.mpr ⟨h, by simp, fun a ha b hb e1 => ?_⟩
    subst e1
    rw [List.mem_singleton] at hb
    subst hb
    exact h2 (dget_isSome.mpr ha)
end
section
variable {κ : Type} [En κ] [DecidableEq κ] [Ky κ] {α β γ σ τ : Type} {R : Rep α} {R' : Rep β} {B O O' : List Addr} {t ta tb tc td ti tf tk tv te : DE} {ρ : Nv} {S S' S0 : Sto} {x : α} {N : DEnds} {u w : DS}
abbrev DR (κ : Type) {α : Type} (R : Rep α) (S : Sto) : κ × α → κ × D → Prop := fun x y => y.1 = x.1 ∧ R.r S x.2 y.2
theorem dr_mono {S S' : Sto} (h : Ext S S') {xs : List (κ × α)} {ds : List (κ × D)} (a : All2 (DR κ R S) xs ds) : All2 (DR κ R S') xs ds := All2.imp (fun _ _ q => ⟨q.1, R.mono h q.2⟩) a
theorem dct_at {xs : List (κ × α)} {d : D} (h : (dct κ R).r (ct B O S) xs d) : ∃ p ds, d = .ref p ∧ S p = some (Ky.cell none ds) ∧ p ∉ O ∧ p ∉ B ∧ All2 (DR κ R (ct B (p :: O) S)) xs ds := by
  obtain ⟨p, ds, h1, h2, h3⟩ := h
  obtain ⟨⟨m, k⟩, h2⟩ := ct_at.mp h2
  exact ⟨p, ds, h1, h2, m, k, dr_mono ct_out h3⟩
class Ky0 (κ : Type) [En κ] [DecidableEq κ] [Ky κ] : Prop where
  c0 : Ky.cell none ([] : List (κ × D)) = .dK none [] ∨ Ky.cell none ([] : List (κ × D)) = .dT none []
instance : Ky0 Int := ⟨.inl rfl⟩
instance : Ky0 Str := ⟨.inl rfl⟩
instance : Ky0 (List Int) := ⟨.inr rfl⟩
class KyK (κ : Type) [En κ] [DecidableEq κ] [Ky κ] : Prop where
  keys : ∀ {S : Sto} {a : Addr} {kvs : List (κ × D)} {P : List D → Prop}, S a = some (Ky.cell none kvs) → P (kvs.map fun p => e p.1) → dkKeys S a P
  len : ∀ {S : Sto} {a : Addr} {kvs : List (κ × D)} {Q : DQ}, S a = some (Ky.cell none kvs) → Q (.int (kvs.length : Nat)) S → dLenK [.ref a] S Q
instance : KyK Int := ⟨fun h p => .inl ⟨_, h, by rw [List.map_map]; exact p⟩, fun h q => ⟨_, rfl, .inl ⟨_, h, by rw [List.length_map]; exact q⟩⟩⟩
instance : KyK Str := ⟨fun h p => .inl ⟨_, h, by rw [List.map_map]; exact p⟩, fun h q => ⟨_, rfl, .inl ⟨_, h, by rw [List.length_map]; exact q⟩⟩⟩
theorem keys_rows (kvs : List (List Int × D)) : (kvs.map fun p => (p.1.map (Sum.inl : Int → L2.Key), p.2)).map (fun p => D.tup (p.1.map keyD)) = kvs.map fun p => (e p.1 : D) := by
  rw [List.map_map]
  exact List.map_congr_left fun p _ => (key_ints p.1).symm
instance : KyK (List Int) := ⟨fun h p => .inr ⟨_, h, by rw [keys_rows]; exact p⟩, fun h q => ⟨_, rfl, .inr ⟨_, h, by rw [List.length_map]; exact q⟩⟩⟩
theorem en_sortA [En α] [EnO α] {xs : List α} (hc : Cx B O S) (ha : ED (lst (v α)) B O' t ρ S xs) (ok : xs.length ≤ sizeLine ∧ ∀ x ∈ xs, EnO.so x) (h : EnO.depO α ≤ 30 := by decide) : EN (lst (v α)) B O (dCall dSortA (dCons t dNil)) ρ S (sortE xs) := fun S1 k1 Q q => ha S1 k1 _ fun d S2 k2 r => by
  obtain ⟨p, rfl, h2⟩ := lst_is (S' := S2) r
  refine .inl ⟨_, p, rfl, h2, sort_ok ok.1 ok.2 h, ?_⟩
  rw [sort_e]
  exact new_lst (hc.st (k1.trans k2)) (all2_mk _) k2 q
theorem ei_lenA {xs : List α} (h : ESeq R B O t ρ S xs) : EI B (dCall dLenA (dCons t dNil)) ρ S (xs.length : Int) := fun S1 k1 Q q => h S1 k1 _ fun d S2 k2 r => by
  refine .inl ?_
  obtain ⟨ds, a, rfl | ⟨p, rfl, hp, _, _⟩⟩ := r
  · show Q (.int (ds.length : Nat)) S2
    rw [all2_len a]; exact q _ S2 k2 rfl
  · exact ⟨ds, hp, by rw [all2_len a]; exact q _ S2 k2 rfl⟩
end
end TY
set_option Elab.async false
set_option linter.all false
set_option maxRecDepth 100000
set_option maxHeartbeats 4000000
namespace TY
open PySem DL L2 Ca Cb Cc
open En (e)
structure BR (B : List Addr) (Z : Addr → Prop) (P : Sto → Prop) : Prop where
  st : ∀ {S S' : Sto}, P S → St B S S' → P S'
  mt : ∀ {S : Sto} {p : Addr} (c : Cell), P S → Z p → P (up1 S p c)
  new : ∀ {S : Sto} {p : Addr}, P S → (∀ b ∈ B, ∃ c, Bag b c S) → S p = none → Z p
  bag : ∀ {S : Sto} {p : Addr} (c : Cell), P S → Z p → (∀ b ∈ B, ∃ c, Bag b c S) → ∀ b ∈ B, ∃ c', Bag b c' (up1 S p c)
theorem BR.top {B : List Addr} {S0 : Sto} (h : Cx B [] S0) : BR B (fun p => S0 p = none) (St B S0) where
  st k k' := k.trans k'
  mt _ k n := k.mut n
  new k hb n := k.none hb n
  bag c k n hb b m := by
    obtain ⟨c', z⟩ := h.b b m
    exact ⟨c', (k.mut (c := c) n).bag b m c' z⟩
theorem Cx.mutB {B O : List Addr} {S : Sto} {Z : Addr → Prop} {P : Sto → Prop} {p : Addr} {c : Cell} (h : Cx B O S) (br : BR B Z P) (k : P S) (z : Z p) : Cx B O (up1 S p c) := ⟨br.bag c k z h.b, fun b m => ⟨(h.o b m).1, fun e1 => by
  by_cases e2 : b = p
  · subst e2; rw [up1_same] at e1; cases e1
  · rw [up1_ne e2] at e1; exact (h.o b m).2 e1⟩⟩
def NoLst (c : Cell) : Prop := ∀ ds, c ≠ .lst ds
theorem bag_lk {b c a : Addr} {S : Sto} {x y : Cell} (hx : NoLst x) (h : S a = some y) (hy : NoLst y) : Bag b c (up1 S a x) ↔ Bag b c S := by
  have ne : ∀ {q : Addr} {ds : List D}, S q = some (.lst ds) → q ≠ a := fun h2 e1 => by
    rw [e1, h] at h2
    exact hy _ (Option.some.inj h2)
  have ne' : ∀ {q : Addr} {ds : List D}, up1 S a x q = some (.lst ds) → q ≠ a := fun h2 e1 => by
    rw [e1, up1_same] at h2
    exact hx _ (Option.some.inj h2)
  constructor
  · rintro ⟨b0, b1, b2, ns, h1, h2, r⟩
    have n1 := ne' h1
    have n2 := ne' h2
    rw [up1_ne n1] at h1
    rw [up1_ne n2] at h2
    exact ⟨b0, b1, b2, ns, h1, h2, r⟩
  · rintro ⟨b0, b1, b2, ns, h1, h2, r⟩
    exact ⟨b0, b1, b2, ns, by rw [up1_ne (ne h1)]; exact h1, by rw [up1_ne (ne h2)]; exact h2, r⟩
theorem up1_comm {S : Sto} {a b : Addr} {x y : Cell} (h : a ≠ b) : up1 (up1 S a x) b y = up1 (up1 S b y) a x := by
  funext z
  by_cases h1 : z = a
  · subst h1; rw [up1_ne h, up1_same, up1_same]
  · by_cases h2 : z = b
    · subst h2; rw [up1_same, up1_ne h1, up1_same]
    · rw [up1_ne h2, up1_ne h1, up1_ne h1, up1_ne h2]
theorem BR.lock {B : List Addr} {Z : Addr → Prop} {P : Sto → Prop} {a : Addr} {x y : Cell} (br : BR B Z P) (hx : NoLst x) (hy : NoLst y) (hB : a ∉ B) : BR B (fun p => p ≠ a ∧ Z p) (fun S => S a = some y ∧ P (up1 S a x)) where
  st := fun {S S'} ⟨h, k⟩ s => by
    have h' := s.keep _ _ hB h
    refine ⟨h', br.st k ⟨fun q c n e1 => ?_, fun b m c e1 => ?_⟩⟩
    · by_cases z : q = a
      · subst z; rw [up1_same] at e1 ⊢; exact e1
      · rw [up1_ne z] at e1 ⊢; exact s.keep q c n e1
    · exact (bag_lk hx h' hy).mpr (s.bag b m c ((bag_lk hx h hy).mp e1))
  mt := fun {S p} c ⟨h, k⟩ ⟨n, z⟩ => ⟨by rw [up1_ne (Ne.symm n)]; exact h, by rw [up1_comm n]; exact br.mt c k z⟩
  new := fun {S p} ⟨h, k⟩ hb n => by
    have ne : p ≠ a := fun z => by rw [z, h] at n; cases n
    refine ⟨ne, br.new k (fun b m => ?_) (by rw [up1_ne ne]; exact n)⟩
    obtain ⟨c, q⟩ := hb b m
    exact ⟨c, (bag_lk hx h hy).mpr q⟩
  bag := fun {S p} c ⟨h, k⟩ ⟨n, z⟩ hb b m => by
    obtain ⟨c', q⟩ := br.bag c k z (fun b m => by
      obtain ⟨c, q⟩ := hb b m
      exact ⟨c, (bag_lk hx h hy).mpr q⟩) b m
    rw [up1_comm (Ne.symm n)] at q
    exact ⟨c', (bag_lk hx (by rw [up1_ne (Ne.symm n)]; exact h) hy).mp q⟩
class KyL (κ : Type) [En κ] [DecidableEq κ] [Ky κ] : Prop where
  lkc : ∀ {ds : List (κ × D)}, LkC fun lk => Ky.cell lk ds
  walk : ∀ {td : DE} {ρ : Nv} {S : Sto} {a : Addr} {l : HO} {ds : List (κ × D)} {P : List D → (Sto → Prop) → Sto → Prop}, S a = some (Ky.cell (some l) ds) → (∀ Q : DQ, Q (.ref a) S → td ρ S Q) → P (ds.map fun q => e q.1) (fun S' => S' a = some (Ky.cell (some l) ds)) S → iKeysD td ρ S P
instance : KyL Int := ⟨.inl ⟨_, rfl⟩, fun h ev p => ev _ ⟨_, _, rfl, .inl ⟨_, h, by rw [List.map_map]; exact p⟩⟩⟩
instance : KyL Str := ⟨.inl ⟨_, rfl⟩, fun h ev p => ev _ ⟨_, _, rfl, .inl ⟨_, h, by rw [List.map_map]; exact p⟩⟩⟩
instance : KyL (List Int) := ⟨.inr ⟨_, rfl⟩, fun h ev p => ev _ ⟨_, _, rfl, .inr ⟨_, h, by rw [keys_rows]; exact p⟩⟩⟩
class KyI (κ : Type) [En κ] [DecidableEq κ] [Ky κ] : Prop where
  walk : ∀ {td : DE} {ρ : Nv} {S : Sto} {a : Addr} {l : HO} {ds : List (κ × D)} {P : List D → (Sto → Prop) → Sto → Prop}, S a = some (Ky.cell (some l) ds) → (∀ Q : DQ, Q (.ref a) S → td ρ S Q) → P (ds.map fun q => .tup [e q.1, q.2]) (fun S' => S' a = some (Ky.cell (some l) ds)) S → iItemsD td ρ S P
instance : KyI Int := ⟨fun h ev p => ev _ ⟨_, _, _, rfl, h, by rw [List.map_map]; exact p⟩⟩
instance : KyI Str := ⟨fun h ev p => ev _ ⟨_, _, _, rfl, h, by rw [List.map_map]; exact p⟩⟩
section
variable {κ : Type} [En κ] [DecidableEq κ] [Ky κ] {α β γ σ τ : Type} {R : Rep α} {R' : Rep β} {B O O' : List Addr} {t ta tb tc td ti tf tk tv te : DE} {ρ : Nv} {S S' S0 : Sto} {x : α} {N : DEnds} {u w : DS}
class Flat (R : Rep α) : Prop where
  f : ∀ {S : Sto} {x : α} {d : D} {B O : List Addr} {a : Addr} {c y : Cell}, R.r (ct B O S) x d → a ∉ O → a ∉ B → S a = some y → d ≠ .ref a → R.r (ct B (a :: O) (up1 S a c)) x d
instance [En α] : Flat (lst (v α)) := ⟨fun {S x d B O a c y} h m k e1 ne => by
  obtain ⟨p, rfl, h2⟩ := lst_v.mp h
  obtain ⟨⟨h3, h4⟩, h5⟩ := ct_at.mp h2
  have n : p ≠ a := fun z => ne (by rw [z])
  exact lst_v.mpr ⟨p, rfl, ct_at.mpr ⟨⟨by rw [List.mem_cons]; exact fun z => z.elim n h3, h4⟩, by rw [up1_ne n]; exact h5⟩⟩⟩
theorem all2_any [En α] {S S' : Sto} {xs : List (κ × α)} {ds : List (κ × D)} (h : All2 (DR κ (v α) S) xs ds) : All2 (DR κ (v α) S') xs ds := All2.imp (fun _ _ q => ⟨q.1, q.2⟩) h
instance [En α] : Flat (dct κ (v α)) := ⟨fun {S x d B O a c y} h m k e1 ne => by
  obtain ⟨p, ds, rfl, h5, h3, h4, h6⟩ := dct_at h
  have n : p ≠ a := fun z => ne (by rw [z])
  exact ⟨p, ds, rfl, ct_at.mpr ⟨⟨by rw [List.mem_cons]; exact fun z => z.elim n h3, h4⟩, by rw [up1_ne n]; exact h5⟩, all2_any h6⟩⟩
theorem Cx.lock {a : Addr} {x y : Cell} (h : Cx B O S) (h0 : S a = some x) (hx : NoLst x) (hy : NoLst y) (hB : a ∉ B) : Cx B (a :: O) (up1 S a y) := ⟨fun b m => by
  obtain ⟨c, z⟩ := h.b b m
  exact ⟨c, (bag_lk hy h0 hx).mpr z⟩, fun b m => by
  rcases List.mem_cons.mp m with rfl | m
  · exact ⟨hB, by rw [up1_same]; exact fun z => nomatch z⟩
  · refine ⟨(h.o b m).1, fun z => ?_⟩
    by_cases e1 : b = a
    · subst e1; rw [up1_same] at z; cases z
    · rw [up1_ne e1] at z; exact (h.o b m).2 z⟩
class FlatO (R : Rep α) : Prop where
  g : ∀ {S : Sto} {x : α} {d : D} {B O : List Addr} {a : Addr} {c : Cell}, R.r (ct B (a :: O) S) x d → R.r (ct B O (up1 S a c)) x d
instance [En α] : FlatO (lst (v α)) := ⟨fun {S x d B O a c} h => by
  obtain ⟨p, rfl, h2⟩ := lst_v.mp h
  obtain ⟨⟨h3, h4⟩, h5⟩ := ct_at.mp h2
  rw [List.mem_cons] at h3
  exact lst_v.mpr ⟨p, rfl, ct_at.mpr ⟨⟨fun z => h3 (.inr z), h4⟩, by rw [up1_ne fun z => h3 (.inl z)]; exact h5⟩⟩⟩
instance [En α] : FlatO (dct κ (v α)) := ⟨fun {S x d B O a c} h => by
  obtain ⟨p, ds, rfl, h5, h3, h4, h6⟩ := dct_at h
  rw [List.mem_cons] at h3
  exact ⟨p, ds, rfl, ct_at.mpr ⟨⟨fun z => h3 (.inr z), h4⟩, by rw [up1_ne fun z => h3 (.inl z)]; exact h5⟩, all2_any h6⟩⟩
end
end TY
namespace TY
open PySem DL
end TY
set_option Elab.async false
set_option linter.all false
set_option maxRecDepth 100000
set_option maxHeartbeats 4000000
namespace TY
open PySem DL L2 Ca Cb Cc
open En (e)
open EnD (dep)
structure EW {α : Type} (R : Rep α) (B O : List Addr) (t : DE) (ρ : Nv) (S : Sto) (W : (α → Prop) → Prop) : Prop where
  mono : ∀ {K K' : α → Prop}, (∀ v, K v → K' v) → W K → W K'
  run : ∀ S1, St B S S1 → ∀ Q : DQ, W (fun v => ∀ d S2, St B S1 S2 → R.r (ct B O S2) v d → Q d S2) → t ρ S1 Q
structure EWB (B : List Addr) (t : DT) (ρ : Nv) (S : Sto) (W : (Bool → Prop) → Prop) : Prop where
  mono : ∀ {K K' : Bool → Prop}, (∀ v, K v → K' v) → W K → W K'
  run : ∀ S1, St B S S1 → ∀ Q : Bool → Sto → Prop, W (fun v => ∀ S2, St B S1 S2 → Q v S2) → t ρ S1 Q
structure EWA {τ : Type} (T : RepL τ) (B O : List Addr) (t : DA) (ρ : Nv) (S : Sto) (W : (τ → Prop) → Prop) : Prop where
  mono : ∀ {K K' : τ → Prop}, (∀ v, K v → K' v) → W K → W K'
  run : ∀ S1, St B S S1 → ∀ Q : List D → Sto → Prop, W (fun v => ∀ ds S2, St B S1 S2 → T.r (ct B O S2) v ds → Q ds S2) → t ρ S1 Q
structure EWL {α : Type} (R : Rep α) (B O : List Addr) (t : DA) (ρ : Nv) (S : Sto) (W : (List α → Prop) → Prop) : Prop where
  mono : ∀ {K K' : List α → Prop}, (∀ v, K v → K' v) → W K → W K'
  run : ∀ S1, St B S S1 → ∀ Q : List D → Sto → Prop, W (fun v => ∀ ds S2, St B S1 S2 → All2 (R.r (ct B O S2)) v ds → Q ds S2) → t ρ S1 Q
section
variable {α β γ σ τ : Type} {R : Rep α} {R' : Rep β} {B O O' : List Addr} {t ta tb tc te : DE} {ρ : Nv} {S S' : Sto} {x : α} {N : DEnds} {u w : DS} {T : RepL τ} {Wa W : (α → Prop) → Prop} {Wb : (β → Prop) → Prop}
theorem EW.pure (h : ED R B O t ρ S x) : EW R B O t ρ S (fun K => K x) := ⟨fun k z => k _ z, fun S1 k1 Q q => h S1 k1 Q q⟩
theorem EWB.pure {t : DT} {b : Bool} (h : EB B t ρ S b) : EWB B t ρ S (fun K => K b) := ⟨fun k z => k _ z, fun S1 k1 Q q => h S1 k1 Q q⟩
theorem EW.o [En α] (h : EW (v α) B O t ρ S W) : EW (v α) B O' t ρ S W := ⟨h.mono, fun S1 k1 Q q => h.run S1 k1 Q (h.mono (fun v z d S2 k2 r => z d S2 k2 r) q)⟩
theorem ew_op2 {Rg : Rep γ} {o : D2} (P : α → β → (γ → Prop) → Prop) (pm : ∀ x y {K K' : γ → Prop}, (∀ v, K v → K' v) → P x y K → P x y K') (ha : EW R B O ta ρ S Wa) (hb : EW R' B O tb ρ S Wb)
    (h : ∀ x y d d' S Q, R.r (ct B O S) x d → R'.r (ct B O S) y d' → P x y (fun z => ∀ dz S2, St B S S2 → Rg.r (ct B O S2) z dz → Q dz S2) → o d d' S Q) : EW Rg B O (dOp o ta tb) ρ S (fun K => Wa fun x => Wb fun y => P x y K) :=
  ⟨fun k z => ha.mono (fun x zx => hb.mono (fun y zy => pm x y k zy) zx) z, fun S1 k1 Q q => ha.run S1 k1 _ (ha.mono (fun x zx d S2 k2 r => hb.run S2 (k1.trans k2) _ (hb.mono (fun y zy d' S3 k3 r' =>
    h x y d d' S3 Q (R.mono (ct_st k3) r) r' (pm x y (fun z zz dz S4 k4 rz => zz dz S4 ((k2.trans k3).trans k4) rz) zy)) zx)) q)⟩
theorem ew_j2 [En α] [En β] [En γ] {o : D2} (f : α → β → γ) (ha : EW (v α) B O ta ρ S Wa) (hb : EW (v β) B O tb ρ S Wb) (h : ∀ x y S Q, Q (e (f x y)) S → o (e x) (e y) S Q) : EW (v γ) B O (dOp o ta tb) ρ S (fun K => Wa fun x => Wb fun y => K (f x y)) :=
  ew_op2 (fun x y K => K (f x y)) (fun x y _ _ k z => k _ z) ha hb fun x y d d' S Q r r' z => by cases r; cases r'; exact h x y S Q (z _ S (St.refl _ _) rfl)
theorem ew_add {Wa Wb : (Int → Prop) → Prop} (ha : EW (v Int) B O ta ρ S Wa) (hb : EW (v Int) B O tb ρ S Wb) : EW (v Int) B O (dOp dAdd ta tb) ρ S (fun K => Wa fun i => Wb fun j => K (i + j)) := ew_j2 (fun i j => i + j) ha hb fun _ _ _ _ q => q
theorem ew_eq [En α] [DecidableEq α] [EnD α] {Wa Wb : (α → Prop) → Prop} (ha : EW (v α) B O ta ρ S Wa) (hb : EW (v α) B O tb ρ S Wb) (h : dep α ≤ 63 := by decide) : EW (v Bool) B O (dOp dEq ta tb) ρ S (fun K => Wa fun x => Wb fun y => K (decide (x = y))) :=
  ew_j2 (fun x y => decide (x = y)) ha hb fun x y S Q q => eq_DD (EnD.isd 63 x h) (EnD.isd 63 y h) (by rw [EnD.eqd]; exact q)
theorem ewa_nil : EWA RepL.nil B O dNil ρ S (fun K => K ()) := ⟨fun k z => k _ z, fun S1 k1 Q q => q [] S1 (St.refl _ _) rfl⟩
theorem ewa_cons {v' : DA} {Wt : (τ → Prop) → Prop} (h : EW R B O t ρ S W) (hr : EWA T B O v' ρ S Wt) : EWA (RepL.cons R T) B O (dCons t v') ρ S (fun K => W fun x => Wt fun r => K (x, r)) :=
  ⟨fun k z => h.mono (fun x zx => hr.mono (fun r zr => k _ zr) zx) z, fun S1 k1 Q q => h.run S1 k1 _ (h.mono (fun x zx d S2 k2 r => hr.run S2 (k1.trans k2) _ (hr.mono (fun y zy ds S3 k3 a => zy _ S3 (k2.trans k3) ⟨d, ds, rfl, R.mono (ct_st k3) r, a⟩) zx)) q)⟩
def spB {τ α : Type} (T : RepL τ) (R : Rep α) (W : τ → (α → Prop) → (Exc → Prop) → Prop) : FSp := fun ds S Q EP => ∃ b c O x ds', ds = .ref b :: ds' ∧ Bag b c S ∧ Cx [b] O S ∧ T.r (ct [b] O S) x ds' ∧
  W x (fun v => ∀ d S', St [b] S S' → R.r (ct [b] O S') v d → Q d S') (fun er => ∀ S', St [b] S S' → EP er S')
theorem ew_callB {b : Addr} {i : Nat} {W' : τ → (α → Prop) → (Exc → Prop) → Prop} {EX : EXn} {v' : DA} {Wt : (τ → Prop) → Prop} (ok : τ → Prop) (P : τ → α → Prop) (hc : Cx [b] O S) (hi : ρ[i]? = some (some (.ref b))) (ha : EWA T [b] O v' ρ S Wt) (hw : ∀ xs, ok xs → ∀ K E, (∀ v, P xs v → K v) → W' xs K E) :
    EW R [b] O (dFn (spB T R W') EX (dCons (dVar i) v')) ρ S (fun K => Wt fun xs => ok xs ∧ wDraw (P xs) K) :=
  ⟨fun k z => ha.mono (fun x zx => ⟨zx.1, fun v hv => k _ (zx.2 v hv)⟩) z, fun S1 k1 Q q => ⟨_, hi, ha.run S1 k1 _ (ha.mono (fun xs z ds S2 k2 a => by
    have hc2 := hc.st (k1.trans k2)
    obtain ⟨c, hb⟩ := hc2.b b (List.mem_singleton.mpr rfl)
    exact ⟨b, c, O, xs, ds, rfl, hb, hc2, a, hw xs z.1 _ _ fun v hv d S3 k3 r => z.2 v hv d S3 (k2.trans k3) r⟩) q)⟩⟩
theorem ew_tup [En α] {v' : DA} {Wt : (τ → Prop) → Prop} (n : Nat) (mk : τ → α) (ha : EWA T B O v' ρ S Wt) (hl : n ≤ sizeLine) (h : ∀ C x ds, T.r C x ds → ds.length = n ∧ D.tup ds = e (mk x)) : EW (v α) B O (dTup v') ρ S (fun K => Wt fun xs => K (mk xs)) :=
  ⟨fun k z => ha.mono (fun x zx => k _ zx) z, fun S1 k1 Q q => ha.run S1 k1 _ (ha.mono (fun xs z ds S2 k2 a => ⟨by rw [(h _ _ _ a).1]; exact hl, z _ S2 k2 (h _ _ _ a).2⟩) q)⟩
theorem ewl_nil : EWL R B O dNil ρ S (fun K => K []) := ⟨fun k z => k _ z, fun S1 k1 Q q => q [] S1 (St.refl _ _) .nil⟩
theorem ewl_cons {v' : DA} {Wt : (List α → Prop) → Prop} (h : EW R B O t ρ S W) (hr : EWL R B O v' ρ S Wt) : EWL R B O (dCons t v') ρ S (fun K => W fun x => Wt fun r => K (x :: r)) :=
  ⟨fun k z => h.mono (fun x zx => hr.mono (fun r zr => k _ zr) zx) z, fun S1 k1 Q q => h.run S1 k1 _ (h.mono (fun x zx d S2 k2 r => hr.run S2 (k1.trans k2) _ (hr.mono (fun y zy ds S3 k3 a => zy _ S3 (k2.trans k3) (.cons (R.mono (ct_st k3) r) a)) zx)) q)⟩
theorem ew_lst {v' : DA} {Wt : (List α → Prop) → Prop} (hc : Cx B O S) (h : EWL R B O v' ρ S Wt) : EW (fr S (lst R)) B O (dLst v') ρ S (fun K => Wt fun xs => xs.length ≤ sizeLine ∧ K xs) :=
  ⟨fun k z => h.mono (fun x zx => ⟨zx.1, k _ zx.2⟩) z, fun S1 k1 Q q => h.run S1 k1 _ (h.mono (fun xs z ds S2 k2 a => ⟨by rw [all2_len a]; exact z.1, new_lst (hc.st (k1.trans k2)) a k2 fun d S3 k3 r f => z.2 d S3 k3 ⟨r, f.of (hc.st k1) k1⟩⟩) q)⟩
theorem EW.unfr (h : EW (fr S R) B O t ρ S W) : EW R B O t ρ S W := ⟨h.mono, fun S1 k1 Q q => h.run S1 k1 Q (h.mono (fun v z d S2 k2 r => z d S2 k2 r.1) q)⟩
def wMap {α β : Type} : List α → (α → (β → Prop) → Prop) → (List β → Prop) → Prop
  | [], _, K => K []
  | x :: r, f, K => f x fun y => wMap r f fun ys => K (y :: ys)
theorem wMap_mono {f : α → (β → Prop) → Prop} (fm : ∀ x {K K' : β → Prop}, (∀ v, K v → K' v) → f x K → f x K') : ∀ (xs : List α) {K K' : List β → Prop}, (∀ v, K v → K' v) → wMap xs f K → wMap xs f K'
  | [], _, _, k, z => k _ z
  | x :: r, K, K', k, z => fm x (fun y zy => wMap_mono fm r (fun ys zz => k _ zz) zy) z
theorem lw_go {Ri : Rep α} {R : Rep β} {g : DG} {te : DE} {ρw : Nv} {chk : Sto → Prop} {f : α → (β → Prop) → Prop} (fm : ∀ x {K K' : β → Prop}, (∀ v, K v → K' v) → f x K → f x K') {S0 : Sto} :
    ∀ (xs : List α) (ds : List D) (S1 : Sto), St B S0 S1 → All2 (Ri.r (ct B O' S1)) xs ds → (∀ S3, Ext (ct B O' S1) (ct B O' S3) → chk S3) →
    (∀ x ∈ xs, ∀ d S2, St B S1 S2 → Ri.r (ct B O' S2) x d → ∃ ρ2, EG g ρw d ρ2 ∧ EW R B O te ρ2 S2 (f x)) →
    ∀ (F : List D → Sto → Prop), wMap xs f (fun ys => ∀ es S2, St B S1 S2 → All2 (R.r (ct B O S2)) ys es → F es S2) → lcD chk g dYes te ρw ds S1 F
  | [], _, S1, k0, .nil, hc, body, F, q => ⟨hc S1 (Ext.refl _), q [] S1 (St.refl _ _) .nil⟩
  | x :: xs, _, S1, k0, .cons (y := y) (ys := ys) r t, hc, body, F, q => by
    refine ⟨hc S1 (Ext.refl _), ?_⟩
    obtain ⟨ρ2, hg, he⟩ := body x (by simp) y S1 (St.refl _ _) r
    refine hg S1 _ ?_
    simp only [dYes, if_true]
    refine he.run S1 (St.refl _ _) _ (he.mono (fun y' z d S3 k3 r3 => ?_) q)
    refine lw_go fm xs ys S3 (k0.trans k3) (all2_st k3 t) (fun S4 x4 => hc S4 ((ct_st k3).trans x4)) (fun x hx d S4 k4 => body x (List.mem_cons_of_mem _ hx) d S4 (k3.trans k4)) _ (wMap_mono fm xs (fun ys' zz es S4 k4 a => zz _ S4 (k3.trans k4) ?_) z)
    exact .cons (R.mono (ct_st k4) r3) a
theorem ew_tuple [En α] {Wa : (List α → Prop) → Prop} (h : EW (lst (v α)) B O t ρ S Wa) : EW (v (List α)) B O (dCall dTuple1 (dCons t dNil)) ρ S Wa :=
  ⟨h.mono, fun S1 k1 Q q => h.run S1 k1 _ (h.mono (fun xs z d S2 k2 r => by
    obtain ⟨p, rfl, h2⟩ := lst_is (S' := S2) r
    exact ⟨_, h2, z _ S2 k2 rfl⟩) q)⟩
theorem ew_sort [En α] [EnO α] {Wa : (List α → Prop) → Prop} (hc : Cx B O S) (h : EW (lst (v α)) B O t ρ S Wa) (hd : EnO.depO α ≤ 30 := by decide) : EW (fr S (lst (v α))) B O (dCall dSortA (dCons t dNil)) ρ S (fun K => Wa fun xs => (xs.length ≤ sizeLine ∧ ∀ z ∈ xs, EnO.so z) ∧ K (sortE xs)) :=
  ⟨fun k z => h.mono (fun x zx => ⟨zx.1, k _ zx.2⟩) z, fun S1 k1 Q q => h.run S1 k1 _ (h.mono (fun xs z d S2 k2 r => by
    obtain ⟨p, rfl, h2⟩ := lst_is (S' := S2) r
    refine .inl ⟨_, p, rfl, h2, sort_ok z.1.1 z.1.2 hd, ?_⟩
    rw [sort_e]
    exact new_lst (hc.st (k1.trans k2)) (all2_mk _) k2 fun d S3 k3 r f => z.2 d S3 k3 ⟨r, f.of (hc.st k1) k1⟩) q)⟩
theorem ewb_b {Wa : (Bool → Prop) → Prop} (h : EW (v Bool) B O t ρ S Wa) : EWB B (dB t) ρ S Wa := ⟨h.mono, fun S1 k1 Q q => h.run S1 k1 _ (h.mono (fun b z d S2 k2 r => ⟨b, r, z S2 k2⟩) q)⟩
theorem ewb_tru {Wa : (Bool → Prop) → Prop} (h : EW (v Bool) B O t ρ S Wa) : EWB B (dTru t) ρ S Wa := ⟨h.mono, fun S1 k1 Q q => h.run S1 k1 _ (h.mono (fun b z d S2 k2 r => by cases r; exact z S2 k2) q)⟩
theorem ewb_not {t : DT} {Wa : (Bool → Prop) → Prop} (h : EWB B t ρ S Wa) : EWB B (dNotT t) ρ S (fun K => Wa fun b => K (!b)) := ⟨fun k z => h.mono (fun _ zz => k _ zz) z, fun S1 k1 Q q => h.run S1 k1 _ (h.mono (fun b z S2 k2 => z S2 k2) q)⟩
theorem ewb_or {tA tB : DT} {Wa Wb : (Bool → Prop) → Prop} (ha : EWB B tA ρ S Wa) (hb : EWB B tB ρ S Wb) : EWB B (dOrT tA tB) ρ S (fun K => Wa fun a => wIf a (K true) (Wb K)) :=
  ⟨fun k z => ha.mono (fun a za => by cases a with | true => exact k _ za | false => exact hb.mono k za) z, fun S1 k1 Q q => ha.run S1 k1 _ (ha.mono (fun a z S2 k2 => by
    cases a with
    | true => exact (show ∀ S2, St B S1 S2 → Q true S2 from z) S2 k2
    | false => exact hb.run S2 (k1.trans k2) _ (hb.mono (fun b zb S3 k3 => zb S3 (k2.trans k3)) (show Wb _ from z))) q)⟩
theorem ewb_and {tA tB : DT} {Wa Wb : (Bool → Prop) → Prop} (ha : EWB B tA ρ S Wa) (hb : EWB B tB ρ S Wb) : EWB B (dAndT tA tB) ρ S (fun K => Wa fun a => wIf a (Wb K) (K false)) :=
  ⟨fun k z => ha.mono (fun a za => by cases a with | false => exact k _ za | true => exact hb.mono k za) z, fun S1 k1 Q q => ha.run S1 k1 _ (ha.mono (fun a z S2 k2 => by
    cases a with
    | false => exact (show ∀ S2, St B S1 S2 → Q false S2 from z) S2 k2
    | true => exact hb.run S2 (k1.trans k2) _ (hb.mono (fun b zb S3 k3 => zb S3 (k2.trans k3)) (show Wb _ from z))) q)⟩
theorem sw_asg {i : Nat} {K : α → Prop} (E : EW R B O te ρ S W) (h : W (wAp K)) (k : ∀ v d S1, St B S S1 → R.r (ct B O S1) v d → K v → N.nx (ρ.set i (some d)) S1) : dAsg te (gSet i) N ρ S :=
  E.run S (St.refl _ _) _ (E.mono (fun x z d S1 k1 r => k x d S1 k1 r z) h)
theorem sw_ret {K : α → Prop} (E : EW R B O te ρ S W) (h : W (wAp K)) (k : ∀ v d S1, St B S S1 → R.r (ct B O S1) v d → K v → N.rt d S1) : dRet te N ρ S :=
  E.run S (St.refl _ _) _ (E.mono (fun x z d S1 k1 r => k x d S1 k1 r z) h)
theorem sw_if {tc : DT} {Wc : (Bool → Prop) → Prop} {P Q : Prop} (E : EWB B tc ρ S Wc) (h : Wc fun b => wIf b P Q) (ht : ∀ S1, St B S S1 → P → u N ρ S1) (hf : ∀ S1, St B S S1 → Q → w N ρ S1) : dIfS tc u w N ρ S :=
  E.run S (St.refl _ _) _ (E.mono (fun b z S1 k1 => by
    cases b with
    | true => exact ht S1 k1 z
    | false => exact hf S1 k1 z) h)
end
end TY
set_option Elab.async false
set_option linter.all false
set_option maxRecDepth 100000
set_option maxHeartbeats 4000000
namespace TY
open PySem DL L2 Ca Cb Cc
open En (e)
open EnD (dep)
theorem bag_one {b c c' : Addr} {S : Sto} (h : Bag b c S) (h' : Bag b c' S) : c' = c := by
  obtain ⟨_, _, _, _, h1, _⟩ := h
  obtain ⟨_, _, _, _, h2, _⟩ := h'
  rw [h1] at h2
  injection h2 with h2
  injection h2 with h2
  injection h2 with _ h2
  injection h2 with _ h2
  injection h2 with _ h2
  injection h2 with h2 _
  injection h2 with h2
  exact h2.symm
theorem st_bag1 {b c : Addr} {S S' : Sto} (h : Bag b c S) (h' : Bag b c S') (x : ExtB b S S') : St [b] S S' := ⟨fun a cc m e1 => x a cc (fun z => m (by simp [z])) e1, fun b' m c' z => by
  rw [List.mem_singleton] at m
  subst m
  rw [bag_one h z]; exact h'⟩
section
variable {α β γ σ τ : Type} {R : Rep α} {R' : Rep β} {O O' : List Addr} {t ta tb tc te : DE} {ρ : Nv} {S S' : Sto} {x : α} {N : DEnds} {u w : DS} {b : Addr} {i : Nat} {EX : EXn}
theorem ew_take {Wn : (Int → Prop) → Prop} (hc : Cx [b] O S) (hi : ρ[i]? = some (some (.ref b))) (hn : EW (v Int) [b] O t ρ S Wn) :
    EW (v Int) [b] O (dFn sp__law_take EX (dCons (dVar i) (dCons t dNil))) ρ S (fun K => Wn fun n => (0 < n ∧ n ≤ 1000000000000) ∧ wDraw (fun x => 0 ≤ x ∧ x < n) K) :=
  ⟨fun k z => hn.mono (fun n zn => ⟨zn.1, fun x hx => k _ (zn.2 x hx)⟩) z, fun S1 k1 Q q => ⟨_, hi, hn.run S1 k1 _ (hn.mono (fun n zn d S2 k2 r => by
    cases r
    obtain ⟨c, hb⟩ := (hc.st (k1.trans k2)).b b (List.mem_singleton.mpr rfl)
    exact ⟨b, c, n, rfl, hb, zn.1.1, zn.1.2, fun x S3 h0 h1 hb3 ex => zn.2 x ⟨h0, h1⟩ _ S3 (k2.trans (st_bag1 hb hb3 ex)) rfl⟩) q)⟩⟩
theorem its_of {xs : List α} {d : D} (h : SeqAt R [b] O S xs d) : ∃ ds, Its b S d ds ∧ All2 (R.r (ct [b] O S)) xs ds := by
  obtain ⟨ds, a, rfl | ⟨p, rfl, hp, m, k⟩⟩ := h
  · exact ⟨ds, .inl rfl, a⟩
  · exact ⟨ds, .inr ⟨p, rfl, hp, fun z => k (by simp [z])⟩, a⟩
theorem all2_mem {R : α → D → Prop} : ∀ {xs : List α} {ds : List D} {d : D}, All2 R xs ds → d ∈ ds → ∃ x ∈ xs, R x d
  | _, _, _, .nil, h => by cases h
  | _, _, d, .cons r t, h => by
    rcases List.mem_cons.mp h with rfl | h
    · exact ⟨_, List.mem_cons_self, r⟩
    · obtain ⟨x, h1, h2⟩ := all2_mem t h
      exact ⟨x, List.mem_cons_of_mem _ h1, h2⟩
def EWS {α : Type} (R : Rep α) (B O : List Addr) (t : DE) (ρ : Nv) (S : Sto) (W : (List α → Prop) → Prop) : Prop :=
  (∀ {K K' : List α → Prop}, (∀ v, K v → K' v) → W K → W K') ∧ ∀ S1, St B S S1 → ∀ Q : DQ, W (fun v => ∀ d S2, St B S1 S2 → SeqAt R B O S2 v d → Q d S2) → t ρ S1 Q
theorem ews_p {B : List Addr} {xs : List α} (h : ESeq R B O t ρ S xs) : EWS R B O t ρ S (fun K => K xs) := ⟨fun k z => k _ z, fun S1 k1 Q q => h S1 k1 Q q⟩
theorem ews_l {B : List Addr} {W : (List α → Prop) → Prop} (h : EW (lst R) B O t ρ S W) : EWS R B O t ρ S W := ⟨h.mono, fun S1 k1 Q q => h.run S1 k1 _ (h.mono (fun xs z d S2 k2 r => by
  obtain ⟨p, ds, e1, hp, m, k, a⟩ := lst_at r
  exact z d S2 k2 ⟨ds, all2_ct a, .inr ⟨p, e1, hp, m, k⟩⟩) q)⟩
theorem ew_some {Wn : (List α → Prop) → Prop} (hc : Cx [b] O S) (hi : ρ[i]? = some (some (.ref b))) (hn : EWS R [b] O t ρ S Wn) :
    EW R [b] O (dFn sp__law_some EX (dCons (dVar i) (dCons t dNil))) ρ S (fun K => Wn fun xs => (xs ≠ [] ∧ xs.length ≤ 1000000000000) ∧ wDraw (fun x => x ∈ xs) K) :=
  ⟨fun k z => hn.1 (fun n zn => ⟨zn.1, fun x hx => k _ (zn.2 x hx)⟩) z, fun S1 k1 Q q => ⟨_, hi, hn.2 S1 k1 _ (hn.1 (fun xs zn d S2 k2 r => by
    obtain ⟨c, hb⟩ := (hc.st (k1.trans k2)).b b (List.mem_singleton.mpr rfl)
    obtain ⟨ds, it, a⟩ := its_of r
    refine ⟨b, c, d, ds, rfl, hb, it, fun z => zn.1.1 (by cases a with | nil => rfl | cons _ _ => cases z), by rw [all2_len a]; exact zn.1.2, fun y S3 hy hb3 ex => ?_⟩
    obtain ⟨x, hx, rx⟩ := all2_mem a hy
    have st := st_bag1 hb hb3 ex
    exact zn.2 x hx y S3 (k2.trans st) (R.mono (ct_st st) rx)) q)⟩⟩
theorem perm_e [En α] {ys : List D} : ∀ {xs : List α}, ys.Perm (xs.map e) → ∃ zs : List α, ys = zs.map e ∧ zs.Perm xs := by
  intro xs h
  generalize hl : xs.map e = l at h
  induction h generalizing xs with
  | nil => exact ⟨[], rfl, by cases xs with | nil => exact .nil | cons _ _ => cases hl⟩
  | @cons d l1 l2 h ih =>
    cases xs with
    | nil => cases hl
    | cons x r =>
      rw [List.map_cons, List.cons.injEq] at hl
      obtain ⟨zs, rfl, p⟩ := ih hl.2
      exact ⟨x :: zs, by rw [← hl.1]; rfl, .cons x p⟩
  | swap d d' l =>
    match xs, hl with
    | x :: x' :: r, hl =>
      rw [List.map_cons, List.map_cons, List.cons.injEq, List.cons.injEq] at hl
      exact ⟨x' :: x :: r, by rw [← hl.1, ← hl.2.1, ← hl.2.2]; rfl, .swap x x' r⟩
  | trans _ _ ih1 ih2 =>
    obtain ⟨zs, rfl, p⟩ := ih2 hl
    obtain ⟨ws, rfl, p2⟩ := ih1 rfl
    exact ⟨ws, rfl, p2.trans p⟩
theorem ew_mixed [En α] [DecidableEq α] [EnD α] {Wn : (List α → Prop) → Prop} (hc : Cx [b] O S) (hi : ρ[i]? = some (some (.ref b))) (hn : EWS (v α) [b] O t ρ S Wn) (hd : dep α ≤ 62 := by decide) :
    EW (fr S (lst (v α))) [b] O (dFn sp__law_mixed EX (dCons (dVar i) (dCons t dNil))) ρ S (fun K => Wn fun xs => xs.length ≤ 1000000 ∧ wDraw (fun ys => ys.Perm xs) K) :=
  ⟨fun k z => hn.1 (fun n zn => ⟨zn.1, fun x hx => k _ (zn.2 x hx)⟩) z, fun S1 k1 Q q => ⟨_, hi, hn.2 S1 k1 _ (hn.1 (fun xs zn d S2 k2 r => by
    have hc2 := hc.st (k1.trans k2)
    obtain ⟨c, hb⟩ := hc2.b b (List.mem_singleton.mpr rfl)
    obtain ⟨ds, it, a⟩ := its_of r
    cases all2_v a
    refine ⟨b, c, d, xs.map e, rfl, hb, it, isDs_e (fun z => EnD.isd 62 z hd) xs, by rw [List.length_map]; exact zn.1, fun p ys S3 hp hb3 ex n0 h3 => ?_⟩
    obtain ⟨zs, rfl, pz⟩ := perm_e hp
    have st := st_bag1 hb hb3 ex
    exact zn.2 zs pz _ S3 (k2.trans st) ⟨lst_v.mpr ⟨p, rfl, ct_at.mpr ⟨⟨hc2.newO n0, hc2.newB n0⟩, h3⟩⟩, ⟨p, rfl, (k1.trans k2).none hc2.b n0⟩⟩) q)⟩⟩
mutual
def dsz : D → Nat
  | .tup xs => dszs xs + 1
  | _ => 1
def dszs : List D → Nat
  | [] => 0
  | x :: r => dsz x + dszs r
end
mutual
theorem sa_refl (S : Sto) : ∀ (n : Nat) (x : D), isD n x = true → Sa S (dsz x) x x
  | _, .non, _ => .non
  | _, .bl b, _ => .bl b
  | _, .int i, _ => .int i
  | _, .str z, _ => .str z
  | 0, .tup xs, h => by simp [isD] at h
  | n + 1, .tup xs, h => .tup (sa_refls S n xs (by simpa [isD] using h))
  | _, .ref _, h => by simp [isD] at h
  | _, .fn _, h => by simp [isD] at h
  | _, .ty _, h => by simp [isD] at h
  | _, .lw _, h => by simp [isD] at h
theorem sa_refls (S : Sto) : ∀ (n : Nat) (xs : List D), isDs n xs = true → SaL S (dszs xs) xs xs
  | n, [], _ => .nil
  | n, x :: r, h => by
    have h' := Bool.and_eq_true_iff.mp (show (isD n x && isDs n r) = true by simpa [isDs] using h)
    exact .cons (sa_refl S n x h'.1) (sa_refls S n r h'.2)
end
theorem ew_alike [En α] {B : List Addr} {Wx Wy : (α → Prop) → Prop} {tx ty : DE} (hx : EW (v α) B O tx ρ S Wx) (hy : EW (v α) B O ty ρ S Wy) :
    EW (v Bool) B O (dFn sp__law_alike EX (dCons tx (dCons ty dNil))) ρ S (fun K => Wx fun x => Wy fun y => (x = y ∧ isD 60 (e y) = true ∧ dsz (e y) ≤ 1000000) ∧ K true) :=
  ⟨fun k z => hx.mono (fun _ z => hy.mono (fun _ z => ⟨z.1, k _ z.2⟩) z) z, fun S1 k1 Q q => hx.run S1 k1 _ (hx.mono (fun x z d S2 k2 r => hy.run S2 (k1.trans k2) _ (hy.mono (fun y z d' S3 k3 r' => by
    cases r; cases r'
    obtain ⟨⟨rfl, h1, h2⟩, z⟩ := z
    exact ⟨e x, e x, _, rfl, sa_refl S3 60 _ h1, h2, fun S4 ex => z _ S4 ((k2.trans k3).trans (St.of ex)) rfl⟩) z)) q)⟩
theorem ew_alikeL [En α] {B : List Addr} {Wx Wy : (List α → Prop) → Prop} {tx ty : DE} (hx : EW (lst (v α)) B O tx ρ S Wx) (hy : EW (lst (v α)) B O' ty ρ S Wy) :
    EW (v Bool) B O (dFn sp__law_alike EX (dCons tx (dCons ty dNil))) ρ S (fun K => Wx fun x => Wy fun y => (x = y ∧ isDs 60 (y.map e) = true ∧ dszs (y.map e) ≤ 999999) ∧ K true) :=
  ⟨fun k z => hx.mono (fun _ z => hy.mono (fun _ z => ⟨z.1, k _ z.2⟩) z) z, fun S1 k1 Q q => hx.run S1 k1 _ (hx.mono (fun x z d S2 k2 r => hy.run S2 (k1.trans k2) _ (hy.mono (fun y z d' S3 k3 r' => by
    obtain ⟨p, ds, rfl, hp, m, k, a⟩ := lst_at r
    cases all2_v a
    obtain ⟨p', rfl, h2⟩ := lst_is (S' := S3) r'
    obtain ⟨⟨rfl, h3, h4⟩, z⟩ := z
    exact ⟨_, _, _, rfl, .lst (k3.keep _ _ k hp) h2 (sa_refls S3 60 _ h3), by omega, fun S4 ex => z _ S4 ((k2.trans k3).trans (St.of ex)) rfl⟩) z)) q)⟩
end
end TY
set_option Elab.async false
set_option linter.all false
set_option maxRecDepth 100000
set_option maxHeartbeats 4000000
namespace TY
open PySem DL L2 Ca Cb Cc
open En (e)
open EnD (dep)
theorem wIf_c {α : Type} {K : α → Prop} {c : Bool} {x y : α} {A B : Prop} (h : K (if c = true then x else y)) (h1 : c = true → K x → A) (h2 : c = false → K y → B) : wIf c A B := by
  cases c with
  | true => exact h1 rfl h
  | false => exact h2 rfl h
theorem law_fin {Q : D → Sto → Prop} (hQ : ∀ S', Q (.bl true) S') {v : Bool} {d : D} {S1 : Sto} (r : d = e v) (h : v = true) : Q d S1 := by
  subst h; subst r; exact hQ S1
theorem wJoin_o {σ : Type} {K : σ → Prop} {f : (σ → Prop) → Prop} (h : wJoin K f) : f K := h
section
variable {α β γ σ τ : Type} {R : Rep α} {R' : Rep β} {B O O' : List Addr} {t ta tb tc te : DE} {ρ : Nv} {S S' : Sto} {x : α} {N : DEnds} {u w : DS} {T : RepL τ} {Wa W : (α → Prop) → Prop} {Wb : (β → Prop) → Prop}
theorem EW.ok {ok : Prop} (h : ok → EW R B O t ρ S W) (m : ∀ K K' : α → Prop, (∀ v, K v → K' v) → W K → W K') : EW R B O t ρ S (fun K => ok ∧ W K) := ⟨fun k z => ⟨z.1, m _ _ k z.2⟩, fun S1 k1 Q q => (h q.1).run S1 k1 Q q.2⟩
theorem EWB.ok {t : DT} {ok : Prop} {W : (Bool → Prop) → Prop} (h : ok → EWB B t ρ S W) (m : ∀ K K' : Bool → Prop, (∀ v, K v → K' v) → W K → W K') : EWB B t ρ S (fun K => ok ∧ W K) := ⟨fun k z => ⟨z.1, m _ _ k z.2⟩, fun S1 k1 Q q => (h q.1).run S1 k1 Q q.2⟩
def cst (d : D) : DE := fun _ S Q => Q d S
theorem ed_cst {d : D} (r : R.r (ct B O S) x d) : ED R B O (cst d) ρ S x := fun S1 k1 Q q => q d S1 (St.refl _ _) (R.mono (ct_st k1) r)
theorem EW.lift (F : DE → DE) (strict : ∀ t ρ S Q, F t ρ S Q = t ρ S (fun d S' => F (cst d) ρ S' Q)) (h : EW R B O t ρ S W) (ok : α → Prop) (f : α → β) (pure : ∀ x S' t', St B S S' → ok x → ED R B O t' ρ S' x → ED R' B O (F t') ρ S' (f x)) :
    EW R' B O (F t) ρ S (fun K => W fun x => ok x ∧ K (f x)) :=
  ⟨fun k z => h.mono (fun x zx => ⟨zx.1, k _ zx.2⟩) z, fun S1 k1 Q q => by
    rw [strict]
    exact h.run S1 k1 _ (h.mono (fun x z d S2 k2 r => pure x S2 (cst d) (k1.trans k2) z.1 (ed_cst r) S2 (St.refl _ _) _ fun d' S3 k3 r' => z.2 d' S3 (k2.trans k3) r') q)⟩
theorem EW.liftN (F : DE → DE) (strict : ∀ t ρ S Q, F t ρ S Q = t ρ S (fun d S' => F (cst d) ρ S' Q)) (hc : Cx B O S) (h : EW R B O t ρ S W) (ok : α → Prop) (f : α → β) (pure : ∀ x S' t', St B S S' → ok x → ED R B O t' ρ S' x → EN R' B O (F t') ρ S' (f x)) :
    EW (fr S R') B O (F t) ρ S (fun K => W fun x => ok x ∧ K (f x)) :=
  ⟨fun k z => h.mono (fun x zx => ⟨zx.1, k _ zx.2⟩) z, fun S1 k1 Q q => by
    rw [strict]
    exact h.run S1 k1 _ (h.mono (fun x z d S2 k2 r => pure x S2 (cst d) (k1.trans k2) z.1 (ed_cst r) S2 (St.refl _ _) _ fun d' S3 k3 r' f => z.2 d' S3 (k2.trans k3) ⟨r', f.of (hc.st (k1.trans k2)) (k1.trans k2)⟩) q)⟩
theorem EP.st {t : DO} {o : Option Int} (h : EP B t ρ S o) (k : St B S S') : EP B t ρ S' o := fun S1 k1 Q q => h S1 (k.trans k1) Q q
theorem ew_slL {Wa : (List α → Prop) → Prop} {lo hi : Option Int} {tl th : DO} (hc : Cx B O S) (h : EW (lst R) B O ta ρ S Wa) (hl : EP B tl ρ S lo) (hh : EP B th ρ S hi) : EW (fr S (lst R)) B O (dSl dSlc ta tl th) ρ S (fun K => Wa fun xs => True ∧ K (sl xs lo hi)) :=
  EW.liftN (fun t => dSl dSlc t tl th) (fun _ _ _ _ => rfl) hc h (fun _ => True) (fun xs => sl xs lo hi) fun x S' t' k _ E => en_sl (hc.st k) E (hl.st k) (hh.st k)
theorem EI.any [En α] {x : α} (h : EI B t ρ S x) : EI B t ρ S (e x) := fun S1 k1 Q q => h S1 k1 Q fun d S2 k2 r => q d S2 k2 r
theorem EW.any [En α] (h : EW (v α) B O t ρ S W) : EW (v D) B O t ρ S (fun K => W fun x => K (e x)) := ⟨fun k z => h.mono (fun _ zz => k _ zz) z, fun S1 k1 Q q => h.run S1 k1 Q (h.mono (fun v z d S2 k2 r => z d S2 k2 r) q)⟩
theorem ew_pr2 [En α] [En β] {t1 t2 : DE} (ha : EW (v α) B O t1 ρ S Wa) (hb : EW (v β) B O t2 ρ S Wb) : EW (v (α × β)) B O (dTup (dCons t1 (dCons t2 dNil))) ρ S (fun K => Wa fun x => Wb fun y => K (x, y)) :=
  ew_tup 2 (fun z => (z.1, z.2.1)) (ewa_cons ha (ewa_cons hb ewa_nil)) (szl (by decide)) (by rintro C ⟨a, b, _⟩ ds ⟨_, _, rfl, h1, _, _, rfl, h2, h3⟩; cases h1; cases h2; cases h3; exact ⟨rfl, rfl⟩)
theorem all2_rep {R : α → D → Prop} {x : α} {d : D} (r : R x d) : ∀ n : Nat, All2 R (List.replicate n x) (List.replicate n [d]).flatten
  | 0 => .nil
  | n + 1 => .cons r (all2_rep r n)
theorem en_rep1 {j : Int} (hc : Cx B O S) (ha : ED (lst R) B O ta ρ S [x]) (hb : EI B tb ρ S j) (ok : -(2 ^ 63) ≤ j ∧ j ≤ 1000000) : EN (lst R) B O (dOp dMul ta tb) ρ S (List.replicate j.toNat x) :=
  fun S1 k1 Q q => ha S1 k1 _ fun d S2 k2 r => hb S2 (k1.trans k2) _ fun d' S3 k3 r' => by
    cases r'
    obtain ⟨p, ds, rfl, hp, m, k, a⟩ := lst_at r
    cases a with
    | cons r0 t =>
      cases t
      refine ⟨_, k3.keep _ _ k hp, ok.1, by omega, ?_, new_lst (hc.st ((k1.trans k2).trans k3)) (all2_rep (R.mono ((ct_st k3).trans (ct_mono fun a m => List.mem_cons_of_mem _ m)) r0) _) (k2.trans k3) q⟩
      have : (1000000 : Nat) ≤ sizeLine := by decide
      simp only [List.length_cons, List.length_nil]
      omega
theorem ED.i [En α] {x : α} (h : ED (v α) B O t ρ S x) : EI B t ρ S x := ED.o h
theorem st_tg {R' : Rep β} {i j : Nat} {t1 t2 : DE} {x : α} {y : β} {K : α × β → Prop} (Ea : ED R B O t1 ρ S x) (Eb : ED R' B O t2 ρ S y) (h : wAp K (x, y)) (k : ∀ v d d' S1, St B S S1 → R.r (ct B O S1) v.1 d → R'.r (ct B O S1) v.2 d' → K v → N.nx ((ρ.set i (some d)).set j (some d')) S1) :
    dAsg (dTup (dCons t1 (dCons t2 dNil))) (gTup 2 (gCons (gSet i) (gCons (gSet j) gNil))) N ρ S :=
  Ea S (St.refl _ _) _ fun d S1 k1 r => Eb S1 k1 _ fun d' S2 k2 r' => ⟨szl (show 2 ≤ 1000 by decide), rfl, rfl, k (x, y) d d' S2 (k1.trans k2) (R.mono (ct_st k2) r) r' h⟩
structure EWI {α : Type} (R : Rep α) (B O : List Addr) (t : DI) (ρ : Nv) (S : Sto) (W : (List α → Prop) → Prop) : Prop where
  mono : ∀ {K K' : List α → Prop}, (∀ v, K v → K' v) → W K → W K'
  run : ∀ S1, St B S S1 → ∀ P : List D → (Sto → Prop) → Sto → Prop, W (fun xs => ∀ ds chk S2, St B S1 S2 → All2 (R.r (ct B O S2)) xs ds → (∀ S3, Ext (ct B O S2) (ct B O S3) → chk S3) → P ds chk S2) → t ρ S1 P
theorem EWI.pure {wi : DI} {xs : List α} (h : EIt R B O wi ρ S xs) : EWI R B O wi ρ S (fun K => K xs) := ⟨fun k z => k _ z, fun S1 k1 P p => h S1 k1 P p⟩
theorem itw_any {Wn : (List α → Prop) → Prop} (h : EWS R B O t ρ S Wn) : EWI R B O (iAny t) ρ S Wn := ⟨h.1, fun S1 k1 P p => by
  rw [ap_iAny]
  exact h.2 S1 k1 _ (h.1 (fun xs z d S2 k2 r => r.sq fun ds chk a c => z ds chk S2 k2 a c) p)⟩
theorem sw_for {Ri : Rep α} {wi : DI} {g : DG} {tb : DS} {Wi : (List α → Prop) → Prop} {s : σ} {body : α → σ → (σ → Prop) → Prop} {fin : σ → Prop} (A : Sto → σ → Nv → Sto → Prop) (hi : EWI Ri B O wi ρ S Wi) (h : Wi fun xs => wFor xs s body fin)
    (a0 : ∀ S1, St B S S1 → A S1 s ρ S1) (lnk : ∀ S2 s ρ1 S1, A S2 s ρ1 S1 → Ext (ct B O S2) (ct B O S1))
    (step : ∀ S2, St B S S2 → ∀ x, True → ∀ d s (next : σ → Prop) ρ1 S1 (Kx : Nv → Sto → Prop), A S2 s ρ1 S1 → Ri.r (ct B O S1) x d → body x s next → (∀ s' ρ2 S3, next s' → A S2 s' ρ2 S3 → Kx ρ2 S3) → g d ρ1 S1 fun ρ2 S3 => tb { N with nx := Kx, ct := Kx, bk := N.nx } ρ2 S3)
    (done : ∀ S2 s ρ1 S1, St B S S2 → fin s → A S2 s ρ1 S1 → N.nx ρ1 S1) : dFor wi g tb N ρ S :=
  hi.run S (St.refl _ _) _ (hi.mono (fun xs h ds chk S2 k2 a hchk => forD_w (A S2) hchk (lnk S2) (fun s ρ1 S1 => done S2 s ρ1 S1 k2) xs ds s ρ S2 (fun x _ => step S2 k2 x trivial) a (a0 S2 k2) h) h)
theorem ew_lcw {Ri : Rep α} {R : Rep β} {wi : DI} {g : DG} {te : DE} {vs : List Nat} {Wi : (List α → Prop) → Prop} (f : α → (β → Prop) → Prop) (hc : Cx B O S) (hi : EWI Ri B O' wi ρ S Wi) (fm : ∀ x {K K' : β → Prop}, (∀ v, K v → K' v) → f x K → f x K')
    (body : ∀ x, ∀ d S2, St B S S2 → Ri.r (ct B O' S2) x d → ∃ (ρ2 : Nv) (W' : (β → Prop) → Prop), EG g (wipeD ρ vs) d ρ2 ∧ EW R B O te ρ2 S2 W' ∧ W' = f x) : EW (fr S (lst R)) B O (dLc wi g dYes te vs) ρ S (fun K => Wi fun xs => xs.length ≤ sizeLine ∧ wMap xs f K) :=
  ⟨fun k z => hi.mono (fun xs z => ⟨z.1, wMap_mono fm xs k z.2⟩) z, fun S1 k1 Q q => hi.run S1 k1 _ (hi.mono (fun xs q ds chk S2 k2 a hchk => by
    refine ⟨by rw [all2_len a]; exact q.1, ?_⟩
    refine lw_go fm xs ds S2 (k1.trans k2) a hchk (fun x hx d S3 k3 r3 => by obtain ⟨ρ2, W', h1, h2, rfl⟩ := body x d S3 ((k1.trans k2).trans k3) r3; exact ⟨ρ2, h1, h2⟩) _ (wMap_mono fm xs (fun ys z es S3 k3 a3 => ?_) q.2)
    exact new_lst (hc.st ((k1.trans k2).trans k3)) a3 (k2.trans k3) fun d S4 k4 r f => z d S4 k4 ⟨r, f.of (hc.st k1) k1⟩) q)⟩
theorem seq_join {t' u' : DS} {K : σ → Prop} {f : (σ → Prop) → Prop} (A : σ → Nv → Sto → Prop) (h : wJoin K f) (kj : ∀ s ρ1 S1, K s → A s ρ1 S1 → u' N ρ1 S1)
    (go : ∀ k : σ → Prop, f k → (∀ s ρ1 S1, k s → A s ρ1 S1 → u' N ρ1 S1) → t' { N with nx := u' N } ρ S) : dSeq t' u' N ρ S := seq_i (go K h kj)
theorem st_bag {i j : Nat} {xs : List Int} {EX : EXn} (hi : ρ[j]? = some (some (.lw (xs.map D.int)))) (k : ∀ b c S1, Bag b c S1 → N.nx (ρ.set i (some (.ref b))) S1) : dAsg (dFn sp__law_bag EX (dCons (dVar j) dNil)) (gSet i) N ρ S :=
  ⟨_, hi, ⟨xs, rfl, fun a c S1 _ _ _ hb => k a c S1 hb⟩⟩
theorem Cx.bag {b c : Addr} (h : Bag b c S) : Cx [b] [] S := ⟨fun b' m => by rw [List.mem_singleton] at m; subst m; exact ⟨c, h⟩, fun _ m => by simp at m⟩
def insU (x : Int) : List Int → List Int
  | [] => [x]
  | y :: r => if x < y then x :: y :: r else if x = y then y :: r else y :: insU x r
def sortU (xs : List Int) : List Int := xs.foldr insU []
theorem insU_mem {x k : Int} : ∀ {r : List Int}, k ∈ insU x r ↔ k = x ∨ k ∈ r
  | [] => by simp [insU]
  | y :: r => by
    unfold insU
    split
    · simp
    · split
      · rename_i h; subst h; simp
      · rw [List.mem_cons, insU_mem, List.mem_cons]; constructor <;> (intro h; rcases h with h | h | h <;> simp [h])
theorem insU_lt {x : Int} : ∀ {r : List Int}, r.Pairwise (· < ·) → (insU x r).Pairwise (· < ·)
  | [], _ => by simp [insU]
  | y :: r, h => by
    have h' := List.pairwise_cons.mp h
    unfold insU
    split
    · rename_i c
      refine List.pairwise_cons.mpr ⟨fun z hz => ?_, h⟩
      rcases List.mem_cons.mp hz with a | a
      · omega
      · have := h'.1 z a; omega
    · split
      · exact h
      · refine List.pairwise_cons.mpr ⟨fun z hz => ?_, insU_lt h'.2⟩
        rcases insU_mem.mp hz with a | a
        · omega
        · exact h'.1 z a
theorem sortU_mem {k : Int} : ∀ {xs : List Int}, k ∈ sortU xs ↔ k ∈ xs
  | [] => by simp [sortU]
  | x :: r => by
    show k ∈ insU x (sortU r) ↔ _
    rw [insU_mem, sortU_mem, List.mem_cons]
theorem sortU_lt : ∀ xs : List Int, (sortU xs).Pairwise (· < ·)
  | [] => List.Pairwise.nil
  | x :: r => insU_lt (sortU_lt r)
theorem pw_uniq : ∀ {xs ys : List Int}, xs.Pairwise (· < ·) → ys.Pairwise (· < ·) → (∀ k, k ∈ xs ↔ k ∈ ys) → xs = ys
  | [], [], _, _, _ => rfl
  | [], y :: ys, _, _, h => by simpa using (h y).mpr (by simp)
  | x :: xs, [], _, _, h => by simpa using (h x).mp (by simp)
  | x :: xs, y :: ys, h1, h2, h => by
    have h1' := List.pairwise_cons.mp h1
    have h2' := List.pairwise_cons.mp h2
    have e1 : x = y := by
      rcases List.mem_cons.mp ((h x).mp (by simp)) with a | a
      · exact a
      · rcases List.mem_cons.mp ((h y).mpr (by simp)) with b | b
        · exact b.symm
        · have := h1'.1 y b; have := h2'.1 x a; omega
    subst e1
    congr 1
    refine pw_uniq h1'.2 h2'.2 fun k => ⟨fun m => ?_, fun m => ?_⟩
    · rcases List.mem_cons.mp ((h k).mp (by simp [m])) with a | a
      · have := h1'.1 k m; omega
      · exact a
    · rcases List.mem_cons.mp ((h k).mpr (by simp [m])) with a | a
      · have := h2'.1 k m; omega
      · exact a
theorem sset_any {xs : List Int} {d : D} {S1 : Sto} {Q : DQ} (hc : Cx B O S1) (r : (lst (v Int)).r (ct B O' S1) xs d) (hl : FewI xs) (q : ∀ d' S2, St B S1 S2 → (lst (v Int)).r (ct B O S2) (sortU xs) d' → Fr S1 d' → Q d' S2) :
    ∃ a ds, d = .ref a ∧ LA S1 a ds ∧ ((∃ ns : List Int, ds = ns.map D.int ∧ FewI ns ∧ ∀ (ns' : List Int) p, ns'.Pairwise (· < ·) → (∀ k, k ∈ ns' ↔ k ∈ ns) → S1 p = none → Q (.ref p) (up1 S1 p (.lst (ns'.map D.int)))) ∨
     ∃ (ks : List (List Int)) (d : Nat) (B : Int), ds = ks.map rowD ∧ ks.length < 64 ∧ 1 ≤ d ∧ (∀ k ∈ ks, k.length = d ∧ TS.Bd B k) ∧
     ∀ (ks' : List (List Int)) p, ks'.Nodup → (∀ k, k ∈ ks' ↔ k ∈ ks) → ks'.Pairwise (fun k k' => TS.code B k ≤ TS.code B k') → S1 p = none → Q (.ref p) (up1 S1 p (.lst (ks'.map rowD)))) := by
  obtain ⟨p, rfl, h2⟩ := lst_is (S' := S1) r
  refine ⟨p, xs.map e, rfl, h2, .inl ⟨xs, rfl, hl, fun ns' p' hp hm hn => ?_⟩⟩
  have e1 := pw_uniq hp (sortU_lt xs) fun k => by rw [hm, sortU_mem]
  subst e1
  exact new_lst hc (all2_mk (sortU xs)) (St.refl _ _) q p' hn
abbrev SsB (xs : List Int) : Prop := xs.length < 4095 ∧ (sortU xs).length < 64
theorem SsB.few {xs : List Int} (h : SsB xs) : FewI xs := ⟨h.1, sortU xs, h.2, fun _ m => sortU_mem.mpr m⟩
theorem ew_ssetF {P : List Int → Prop} (hP : ∀ xs, P xs → FewI xs) {Wx : (List Int → Prop) → Prop} (hc : Cx B O S) (h : EW (lst (v Int)) B O t ρ S Wx) : EW (fr S (lst (v Int))) B O (dSortSet t) ρ S (fun K => Wx fun xs => P xs ∧ K (sortU xs)) :=
  ⟨fun k z => h.mono (fun x zx => ⟨zx.1, k _ zx.2⟩) z, fun S1 k1 Q q => h.run S1 k1 _ (h.mono (fun xs z d S2 k2 r => sset_any (hc.st (k1.trans k2)) r (hP _ z.1) fun d' S3 k3 r' f => z.2 d' S3 (k2.trans k3) ⟨r', f.of (hc.st (k1.trans k2)) (k1.trans k2)⟩) q)⟩
theorem ew_sset {Wx : (List Int → Prop) → Prop} (hc : Cx B O S) (h : EW (lst (v Int)) B O t ρ S Wx) : EW (fr S (lst (v Int))) B O (dSortSet t) ρ S (fun K => Wx fun xs => xs.length < 64 ∧ K (sortU xs)) := ew_ssetF (fun _ => .of) hc h
end
end TY
set_option Elab.async false
set_option linter.all false
set_option maxRecDepth 100000
set_option maxHeartbeats 4000000
namespace DL
open PySem PySem.Spec PyProof.Rows L2
section
variable {X : Cx}
end
section
variable {X : Cx} {Z : Zb} {kx vx tg iter : Expr} {ifs : List Expr} {scope : Scope} {own : List (Str × Nat)} {pos spos py : Pos} {wi : DI} {g : DG} {tt : DT} {tk tv : DE} {vs : List Nat}
end
end DL
set_option Elab.async false
set_option linter.all false
set_option maxRecDepth 100000
set_option maxHeartbeats 4000000
namespace DL
open PySem PySem.Spec PyProof.Rows L2
section
variable {X : Cx}
end
end DL
set_option Elab.async false
set_option linter.all false
set_option maxRecDepth 100000
set_option maxHeartbeats 4000000
namespace DL
open PySem PySem.Spec PyProof.Rows L2 NdefX
section
variable {CX : CXT} {P : Program} {w : World} {K : PySem.W.Frag} {mg : Str → Option Value} {base : Heap} {N ps : List Str} {F : NF} {f : Addr} {k : Nat} {sp : Sp} {C D cc : Addr} {me : Str} {fd : FuncData} {oc : Value} {od : Option Addr} {osl : Array (Option Value)}
  {e : Expr} {es : List Expr} {p0 p1 apos pos epos : Pos} {rest : List Stmt} {pl : Sem Bool}
end
end DL
set_option Elab.async false
set_option linter.all false
set_option maxRecDepth 100000
set_option maxHeartbeats 4000000
namespace DL
open PySem PySem.Spec PyProof.Rows L2
section
variable {X : Cx} {o e : Expr} {es : List Expr} {to te : TE} {ta : TA} {f : Str} {p p' p1 p2 pos : Pos}
end
end DL
set_option Elab.async false
set_option linter.all false
set_option maxRecDepth 100000
set_option maxHeartbeats 4000000
namespace DL
open PySem PySem.Spec PyProof.Rows L2 NdefX
section
variable {X : Cx} {me x1 x2 f1 f2 : Str} {p1 p2 p3 p4 p5 p6 pos1 pos2 : Pos}
end
end DL
set_option Elab.async false
set_option linter.all false
set_option maxRecDepth 100000
set_option maxHeartbeats 4000000
namespace DL
open PySem PySem.Spec PyProof.Rows L2 NdefX
end DL
set_option Elab.async false
set_option linter.all false
set_option maxRecDepth 100000
set_option maxHeartbeats 4000000
namespace DL
open PySem PySem.Spec PyProof.Rows L2 NdefX
end DL
set_option Elab.async false
set_option linter.all false
set_option maxRecDepth 100000
set_option maxHeartbeats 4000000
namespace DL
open PySem PySem.Spec PyProof.Rows L2 NdefX
section
variable {X : Cx} {Z : Zb} {e : Expr} {es : List Expr} {t : DA} {c f1 f2 : Str} {p pos pos' : Pos} {k : Nat} {EX : EXn} {C fI : Addr} {fd : FuncData} {ps : List Str}
end
end DL
set_option Elab.async false
set_option linter.all false
set_option maxRecDepth 100000
set_option maxHeartbeats 4000000
namespace DL
open PySem PySem.Spec PyProof.Rows L2 NdefX
section
variable {CX : CXT} {P : Program} {w : World} {K : PySem.W.Frag} {mg : Str → Option Value} {base : Heap} {F : NF} {f : Addr} {k : Nat} {C D cc : Addr} {me x1 x2 f1 f2 : Str} {fd : FuncData} {oc : Value} {od : Option Addr} {osl : Array (Option Value)}
  {q7 q8 p0 p1 p9 p2 p3 p4 p5 p6 apos pos epos pos1 pos2 : Pos} {pl : Sem Bool}
end
end DL
set_option Elab.async false
set_option linter.all false
set_option maxRecDepth 100000
set_option maxHeartbeats 4000000
namespace DL
open PySem PySem.Spec PyProof.Rows L2 NdefX
def errFlds : List (Str × List Str) := [("CoinError", []), ("BadText", ["line", "column"]), ("BadCoinage", ["place", "fault"]), ("BadGuests", ["place", "fault"]), ("BadPaper", ["fault"]), ("BadLog", ["index", "fault"]),
  ("NoName", ["name"]), ("NoCommand", ["line"]), ("Stuck", ["due"]), ("Refused", ["why"]), ("Nothing", []), ("TooMany", ["what", "limit"])]
def errNames : List Str := errFlds.map (·.1)
def supNames : List Str := ["CoinError", "ValueError", "Exception"]
def tcE (y x : Str) : Option Bool := if errNames.contains y then (if x == y || supNames.contains x then some true else if errNames.contains x then some false else none) else none
def fldE (y f : Str) : Bool := match errFlds.lookup y with
  | some l => l.contains f
  | none => false
structure HdOk (K : PySem.W.Frag) (mg : Str → Option Value) (x : Str) (c : Value) : Prop where
  nm : mg x = some c ∨ (mg x = none ∧ bootBuiltins x = some c ∧ x ≠ "__name__")
  exm : ∀ y b C, tcE y x = some b → mg y = some (.ref C) → PySem.W.exmOne K (.ref C) c = some b
structure FldOk (K : PySem.W.Frag) (mg : Str → Option Value) : Prop where
  ok : ∀ y f C, fldE y f = true → mg y = some (.ref C) → XfC K C ∧ PySem.W.findIn K (.ref C) f = some none
def exAs (x : Str) (i : Nat) (ts : Exc → Addr → DS) (EX : EXn) (D : DEnds) : EXn := fun e ρ S => ∃ b, tcE e.cls x = some b ∧
  (b = true → ∀ a, S a = none → ts e a { nx := fun ρ' S' => D.nx (ρ'.set i none) S', rt := D.rt, bk := fun ρ' S' => D.bk (ρ'.set i none) S', ct := fun ρ' S' => D.ct (ρ'.set i none) S' } (ρ.set i (some (.ref a))) S) ∧ (b = false → EX e ρ S)
def dTryAs (x : Str) (i : Nat) (tb : EXn → DS) (ts : Exc → Addr → DS) (EX : EXn) : DS := fun D ρ S => tb (exAs x i ts EX D) D ρ S
structure SuOk (K : PySem.W.Frag) (mg : Str → Option Value) (Z : Zb) (oe : Obj) (cls : Value) (d : Option Addr) (e : Exc) : Prop where
  zc : L2N.Zn cls d oe
  fl : ∃ vs, oe.data = .fields vs
  rx : RpX K mg Z.H e cls d
  st : StO K mg Z.S Z.H
theorem RpX.exm {K : PySem.W.Frag} {mg : Str → Option Value} {H : Hp} {e : Exc} {cls : Value} {d : Option Addr} {x : Str} {c : Value} {b : Bool} (r : RpX K mg H e cls d) (ok : HdOk K mg x c) (h : tcE e.cls x = some b) : PySem.W.exmOne K cls c = some b := by
  cases r with
  | own hm _ _ _ => exact ok.exm _ _ _ h hm
  | bare hm _ => exact ok.exm _ _ _ h hm
def suTS (K : PySem.W.Frag) (mg : Str → Option Value) (ts : Exc → Addr → DS) (a : Addr) (cls : Value) (d : Option Addr) : TS := fun T σ H => ∃ e ρ S D, RpX K mg H e cls d ∧ RpS K mg H ρ σ ∧ StO K mg S H ∧ ts e a D ρ S ∧ KtS K mg S H D T
def trTS (K : PySem.W.Frag) (mg : Str → Option Value) (Z : Zb) (tb : EXn → DS) (W : WX) : TS := fun T σ H => ∃ (Z' : Zb) (EX' : EXn), Tr Z.S Z.H Z'.S Z'.H ∧ (∀ cls d σ H, upW K mg Z' EX' cls d σ H → W cls d σ H) ∧ upS K mg Z' (tb EX') T σ H
section
variable {X : Cx} {Z : Zb} {x n : Str} {c : Value} {i : Nat} {body suite : List Stmt} {b₀ : Stmt} {np pos pos' : Pos} {tb : EXn → DS} {ts : Exc → Addr → DS} {EX : EXn}
theorem ss_try_as (hs : X.stack = X.env :: X.outer) (hf : X.env.frame = some X.env.locals) (hN : X.N.Nodup) (hi : X.N[i]? = some n) (hln : X.env.kindOf n = some .local) (hg : Gl X x) (hdb : (x == ("__debug__" : Str)) = false) (ok : HdOk X.K X.mg x c) (tk : L2N.Takes X (upW X.K X.mg Z EX))
    (hb : ∀ (EX' : EXn) (Z' : Zb) (pn : List (Addr × Obj)) (xe : Value → Shared → Prop), Tr Z.S Z.H Z'.S Z'.H → L2N.Takes (X.tr pn xe) (upW X.K X.mg Z' EX') → PassesOwn (model X.prog X.w) X.A X.env xe → SSs (X.tr pn xe) Z' body (tb EX'))
    (hsu : ∀ (a : Addr) (oe : Obj) (cls : Value) (d : Option Addr) (pn : List (Addr × Obj)) (e : Exc) (Z' : Zb), SuOk X.K X.mg Z' oe cls d e → SSs (X.suite a ((a, oe) :: pn)) Z' (b₀ :: suite) (ts e a)) :
    SS X Z (.Try body [.ExceptHandler (some (.Name x np)) (some n) (b₀ :: suite) pos'] [] [] pos) (dTryAs x i tb ts EX) := by
  refine psI (L2N.ps_try_as (c := c) (tb := trTS X.K X.mg Z tb) (ts := suTS X.K X.mg ts) hs hf hN hi hln ⟨hg, hdb, ok.nm⟩ tk (fun W pn xe tw po => ⟨fun pins s σ H T I ⟨Z', EX', tz, imp, hu⟩ => (hb EX' Z' pn xe tz (L2N.Takes.imp tw imp) po).run pins s σ H T I hu⟩)
    (fun a oe cls d pn zc fl => ⟨fun pins s σ H T I ⟨e, ρ, S, D, rx, r, st, h, kk⟩ => (hsu a oe cls d pn e ⟨S, H⟩ ⟨zc, fl, rx, st⟩).run pins s σ H T I ⟨ρ, S, D, r, st, Tr.refl _ _, h, kk⟩⟩)) fun T σ H ⟨ρ, S, D, r, s, z, h, kk⟩ => ?_
  refine ⟨⟨S, H⟩, exAs x i ts EX D, z, fun cls d σ' H' ⟨e, ρ', S', r', s', t', rx, b, hb, hy, hn⟩ => ?_, ρ, S, D, r, s, Tr.refl _ _, h, kk⟩
  refine ⟨b, rx.exm ok hb, fun e1 a ha => ?_, fun e1 => ⟨e, ρ', S', r', s', z.trans t', rx, hn e1⟩⟩
  exact ⟨e, _, S', _, rx, r'.set (.ref a) i, s', hy e1 a (s'.free ha), ⟨fun ρ2 S2 σ2 H2 t2 s2 r2 h2 => kk.nx _ _ _ _ (t'.trans t2) s2 (r2.forget i) h2, kk.rt.at t', fun ρ2 S2 σ2 H2 t2 s2 r2 h2 => kk.bk _ _ _ _ (t'.trans t2) s2 (r2.forget i) h2, fun ρ2 S2 σ2 H2 t2 s2 r2 h2 => kk.ct _ _ _ _ (t'.trans t2) s2 (r2.forget i) h2⟩⟩
end
theorem StO.noxd {K : PySem.W.Frag} {mg : Str → Option Value} {S : Sto} {H : Hp} (s : StO K mg S H) {a : Addr} {fs : List (Str × V)} (h : H a = some (.xd fs)) : S a = none := by
  cases e : S a with
  | none => rfl
  | some c =>
    obtain ⟨o, q, r⟩ := s a c e
    rw [h] at q; cases q
    have no : ∀ {lk : Option HO} {u : HO}, Lk lk (.xd fs) u → (∀ fs, u ≠ .xd fs) → False := fun {lk u} l n => by
      cases lk with
      | none => exact n _ (Eq.symm l)
      | some k =>
        obtain ⟨rfl, o, e⟩ := l
        cases e
    cases r with
    | dK l _ => exact (no l fun _ z => by cases z).elim
    | dT l _ => exact (no l fun _ z => by cases z).elim
theorem rpL_lookup {K : PySem.W.Frag} {mg : Str → Option Value} {H : Hp} {f : Str} {v : D} : ∀ {es : List (Str × D)} {fs : List (Str × V)}, fs.map (·.1) = es.map (·.1) → RpL K mg H (es.map (·.2)) (fs.map (·.2)) → es.lookup f = some v → ∃ u, fs.lookup f = some u ∧ Rp K mg H v u
  | [], _, _, _, e => by cases e
  | _ :: _, [], h, _, _ => by cases h
  | (k, d) :: es, (k', u) :: fs, h, r, e => by
    simp only [List.map_cons, List.cons.injEq] at h
    obtain ⟨rfl, h⟩ := h
    rw [List.map_cons, List.map_cons] at r
    cases r with
    | cons r1 r2 =>
      rw [List.lookup_cons] at e ⊢
      cases q : (f == k') with
      | true => rw [q] at e; cases e; exact ⟨u, rfl, r1⟩
      | false => rw [q] at e; exact rpL_lookup h r2 e
def dXf (i : Nat) (a : Addr) (e : Exc) (f : Str) : DE := fun ρ S Q => ρ[i]? = some (some (.ref a)) ∧ fldE e.cls f = true ∧ ∃ v, e.fs.lookup f = some v ∧ Q v S
section
variable {X : Cx} {Z : Zb} {n f : Str} {i : Nat} {p pos : Pos} {a : Addr} {oe : Obj} {cls : Value} {d : Option Addr} {pn : List (Addr × Obj)} {e : Exc}
theorem se_xf (su : SuOk X.K X.mg Z oe cls d e) (F : FldOk X.K X.mg) (hN : X.N[i]? = some n) (hv : Vis X.env.scope n) (h1 : (n == ("__debug__" : Str)) = false) (h2 : (n == ("__classdict__" : Str)) = false) (hb : attributeBase (.Name n p) f X.env (eval (.Name n p) X.env) = eval (.Name n p) X.env) :
    SE (X.suite a ((a, oe) :: pn)) Z (.Attribute (.Name n p) f pos) (dXf i a e f) := by
  by_cases hf : fldE e.cls f = true
  · have go : ∀ C, cls = .ref C → X.mg e.cls = some (.ref C) → SE (X.suite a ((a, oe) :: pn)) Z (.Attribute (.Name n p) f pos) (dXf i a e f) := fun C hc hm => by
      obtain ⟨T, hno⟩ := F.ok _ _ _ hf hm
      refine peI (pe_xf (a := a) (cls := cls) (d := d) (pn := pn) (pos := pos) T hno su.zc.zc su.fl (pe_var (X := X.suite a ((a, oe) :: pn)) (pos := p) hN hv h1 h2) hb) fun σ H Q ⟨ρ, S, P, r, s, z, ⟨hi, _, v, hl, h⟩, k⟩ => ?_
      obtain ⟨u, hu, ru⟩ := r.get i _ hi
      cases ru
      refine ⟨_, hu, rfl, hc, ?_⟩
      cases su.rx with
      | own hm2 hd hk hr =>
        obtain ⟨w, hw, rw_⟩ := rpL_lookup hk hr hl
        exact ⟨_, _, w, rfl, z.keep _ _ hd (su.st.noxd hd) (fun _ z => by cases z), hw, k.now s (z.rp su.st rw_) h⟩
      | bare _ hfs => rw [hfs] at hl; cases hl
    cases hrx : su.rx with
    | own hm hd hk hr => exact go _ rfl hm
    | bare hm hfs => exact go _ rfl hm
  · exact ⟨fun pins s σ H Q I ⟨ρ, S, P, r, s, z, ⟨hi, hf', _⟩, k⟩ => absurd hf' hf⟩
end
end DL
set_option Elab.async false
set_option linter.all false
set_option maxRecDepth 100000
set_option maxHeartbeats 4000000
namespace DL
open PySem PySem.Spec PyProof.Rows L2 RZ
def dd (x : Str) (st : Stmt) : He.DefD := ⟨(x, none), x, x, defArgs st, defBody st, defScope st, [], []⟩
section
variable {K : PySem.W.Frag} {h : Heap} {mg : Str → Option Value} {fal : List He.Fa} {fnl : List He.DefD}
theorem txt_fn (X : K.In h) (G : h.Ns mainGlobals mg) (c : He.SaysD fal fnl K) (i j : Nat) {x : Str} {st : Stmt} (h1 : fal[i]? = some (.glo x)) (h2 : fnl[j]? = some (dd x st)) : ∃ (f : Addr) (fd : FuncData), mg x = some (.ref f) ∧ Fun K x x st f fd := by
  obtain ⟨fd, F⟩ := c.def_ j h2
  have e := He.glo_ok X G (c.fact i h1)
  exact ⟨_, fd, e, He5.fun_of F⟩
theorem txt_free (X : K.In h) (G : h.Ns mainGlobals mg) (c : He.SaysD fal fnl K) (i : Nat) {x : Str} (h1 : fal[i]? = some (.free x)) : mg x = none := He.free_ok X G (c.fact i h1)
end
end DL
set_option Elab.async false
set_option linter.all false
set_option maxRecDepth 100000
set_option maxHeartbeats 4000000
namespace DL
open PySem PySem.Spec PyProof.Rows L2 NdefX
open He (ga ma eqO eqO_ok ba)
abbrev FnI : Type := Option (Str × Arguments × FuncBody × Scope × Addr × List Str × Addr)
def iAd (K : PySem.W.Frag) (x : Str) : Addr := ma K (ga K x) "__init__"
def fnI (K : PySem.W.Frag) (x : Str) : FnI := match K.lookup (iAd K x) with
  | some ⟨_, _, .func fd, _⟩ => some (fd.qualname, fd.params, fd.body, fd.scope, fd.globals, fd.closure.map (·.1), fd.builtins)
  | _ => none
section
variable {P : Program} {K : PySem.W.Frag} {h : Heap} {mg : Str → Option Value} {x me x1 x2 f1 f2 qual : Str} {sc : Scope} {file : Str} {params : Arguments} {body : List Stmt}
  {q7 q8 p0 p1 p9 p2 p3 p4 p5 p6 apos pos epos pos1 pos2 a0 a1 a2 : Pos}
end
def exmB (K : PySem.W.Frag) (x : Str) : Bool := eqO (PySem.W.nsIn K mainGlobals x) (some (some (.ref (ga K x)))) && errNames.all fun y => match PySem.W.nsIn K mainGlobals y with
  | some none => true
  | some (some (.ref C)) => decide (PySem.W.exmOne K (.ref C) (.ref (ga K x)) = tcE y x)
  | _ => false
def fldB (K : PySem.W.Frag) : Bool := errFlds.all fun q => match PySem.W.nsIn K mainGlobals q.1 with
  | some none => true
  | some (some (.ref C)) => q.2.isEmpty || (xfB K C && q.2.all fun f => eqO (PySem.W.findIn K (.ref C) f) (some none))
  | _ => false
section
variable {K : PySem.W.Frag} {h : Heap} {mg : Str → Option Value} {x : Str}
theorem exmB_ok (X : K.In h) (G : h.Ns mainGlobals mg) (c : exmB K x = true) : ∃ c, HdOk K mg x c := by
  obtain ⟨c1, c2⟩ := ba c
  refine ⟨.ref (ga K x), .inl (PySem.W.mg_of X G (eqO_ok c1)), fun y b C ht hm => ?_⟩
  have hy : y ∈ errNames := by
    unfold tcE at ht
    split at ht
    · rename_i hc
      exact List.contains_iff_mem.mp hc
    · cases ht
  have q := List.all_eq_true.mp c2 y hy
  split at q
  · rename_i e
    rw [PySem.W.mg_none_of X G e] at hm
    cases hm
  · rename_i C' e
    have e2 := PySem.W.mg_of X G e
    rw [hm] at e2
    cases e2
    rw [of_decide_eq_true q, ht]
  · cases q
theorem fldB_ok (X : K.In h) (G : h.Ns mainGlobals mg) (c : fldB K = true) : FldOk K mg := by
  refine ⟨fun y f C hf hm => ?_⟩
  unfold fldE at hf
  split at hf
  · rename_i l hl
    have q := List.all_eq_true.mp c (y, l) (PySem.mem_of_lookup hl)
    have hf : l.contains f = true := hf
    split at q
    · rename_i e
      rw [PySem.W.mg_none_of X G e] at hm
      cases hm
    · rename_i C' e
      have e2 := PySem.W.mg_of X G e
      rw [hm] at e2
      cases e2
      have hmem : f ∈ l := List.contains_iff_mem.mp hf
      rcases Bool.or_eq_true_iff.mp q with q | q
      · have q : l.isEmpty = true := q
        rw [List.isEmpty_iff.mp q] at hmem
        cases hmem
      · obtain ⟨q1, q2⟩ := ba q
        exact ⟨xfB_ok q1, eqO_ok (List.all_eq_true.mp q2 f hmem)⟩
    · cases q
  · cases hf
end
abbrev AlY : Type := He.AlD × (List FnI × Bool)
def obsY (fa : List He.Fa) (fn : List He.DefD) (is : List Str) (ex : PySem.W.Frag → Bool) (K : PySem.W.Frag) : AlY := (He.obsD fa fn K, (is.map (fnI K), ex K))
def valY (fn : List He.DefD) (vi : List FnI) : AlY := (He.valD fn, (vi, true))
structure SaysY (fa : List He.Fa) (fn : List He.DefD) (is : List Str) (ex : PySem.W.Frag → Bool) (vi : List FnI) (K : PySem.W.Frag) : Prop where
  d : He.SaysD fa fn K
  i : is.map (fnI K) = vi
  x : ex K = true
theorem SaysY.at {fa : List He.Fa} {fn : List He.DefD} {is : List Str} {ex : PySem.W.Frag → Bool} {vi : List FnI} {K : PySem.W.Frag} (c : SaysY fa fn is ex vi K) (i : Nat) {x : Str} {v : FnI} (h1 : is[i]? = some x) (h2 : vi[i]? = some v) : fnI K x = v := by
  have e := congrArg (fun l : List FnI => l[i]?) c.i
  rw [List.getElem?_map, h1, h2] at e
  exact Option.some.inj e
section
variable {X : Cx} {Z : Zb} {e : Expr} {es : List Expr} {t : DA} {c f1 f2 : Str} {p pos pos' : Pos} {EX : EXn}
end
end DL
set_option Elab.async false
set_option linter.all false
set_option maxRecDepth 100000
set_option maxHeartbeats 4000000
namespace DL
open PySem PySem.Spec PyProof.Rows L2
section
variable {X : Cx}
end
end DL
set_option Elab.async false
set_option linter.all false
set_option maxRecDepth 100000
set_option maxHeartbeats 4000000
namespace TY
open PySem DL L2 Ca Cb Cc
open En (e)
def wTry (E : Exc → Prop) (f : (Exc → Prop) → Prop) : Prop := f E
theorem wTry_x {E : Exc → Prop} {f : (Exc → Prop) → Prop} (h : wTry E f) : ∃ E', E' = E ∧ f E' := ⟨E, rfl, h⟩
theorem wRes_imp {α : Type} {r : Except Exc α} {K K' : α → Prop} {E E' : Exc → Prop} (k : ∀ v, K v → K' v) (e : ∀ er, E er → E' er) (h : wRes r K E) : wRes r K' E' := by
  cases r with
  | ok v => exact k v h
  | error er => exact e er h
theorem wRes_mono {α : Type} {r : Except Exc α} {K K' : α → Prop} {E : Exc → Prop} (k : ∀ v, K v → K' v) (h : wRes r K E) : wRes r K' E := wRes_imp k (fun _ h => h) h
section
variable {α β τ : Type} {R : Rep α} {T : RepL τ} {B O O' : List Addr} {t te : DE} {v' : DA} {ρ : Nv} {S : Sto} {N : DEnds} {EX : EXn} {E : Exc → Prop}
theorem ew_callR {W' : τ → (α → Prop) → (Exc → Prop) → Prop} {Wt : (τ → Prop) → Prop} (ok : τ → Prop) (F : τ → Except Exc α) (hE : ∀ er S1, St B S S1 → E er → EX er ρ S1) (hc : Cx B O S) (ha : EWA T B O v' ρ S Wt) (hw : ∀ xs, ok xs → ∀ K E, wRes (F xs) K E → W' xs K E) :
    EW R B O (dFn (spW T R W') EX v') ρ S (fun K => Wt fun xs => ok xs ∧ wRes (F xs) K E) :=
  ⟨fun k z => ha.mono (fun x zx => ⟨zx.1, wRes_mono k zx.2⟩) z, fun S1 k1 Q q => ha.run S1 k1 _ (ha.mono (fun xs z ds S2 k2 a => ⟨O ++ B, xs, (hc.st (k1.trans k2)).app, by rw [ct_app]; exact a, hw xs z.1 _ _
    (wRes_imp (fun v zv d S3 k3 r => zv d S3 (k2.trans (St.of k3)) (by rw [ct_app] at r; exact r)) (fun er ze S3 k3 => hE er S3 ((k1.trans k2).trans (St.of k3)) ze) z.2)⟩) q)⟩
theorem try_i {x : Str} {i : Nat} {tb : EXn → DS} {ts : Exc → Addr → DS} (h : tb (exAs x i ts EX N) N ρ S) : dTryAs x i tb ts EX N ρ S := h
def xget (er : Exc) (f : Str) : D := (er.fs.lookup f).getD .non
theorem ei_xf {i : Nat} {a : Addr} {er : Exc} {f : Str} (h : ρ[i]? = some (some (.ref a))) (ok : fldE er.cls f = true ∧ (er.fs.lookup f).isSome = true) : EI B (dXf i a er f) ρ S (xget er f) := fun S1 k1 Q q => by
  obtain ⟨v, hv⟩ := Option.isSome_iff_exists.mp ok.2
  refine ⟨h, ok.1, v, hv, q v S1 (St.refl _ _) ?_⟩
  show v = xget er f
  unfold xget
  rw [hv]; rfl
end
section
variable {κ : Type} [En κ] [DecidableEq κ] [Ky κ] {α : Type} [En α] {B O O' : List Addr} {td ti tf : DE} {ρ : Nv} {S : Sto}
end
end TY
set_option Elab.async false
set_option linter.all false
set_option maxRecDepth 100000
set_option maxHeartbeats 400000
namespace DL
open PySem PySem.Spec PyProof.Rows L2
open LamX (TabS TabB CodeO LamS lamEnv)
def lamCx (X : Cx) (A : Around) (outer : List Env) (s : Shared) (H : Hp) (E : XK) (scope : Scope) (f c' : Addr) : Cx :=
  { LamX.lamCx X A outer s H E scope f c' with
    xe := fun e s' => wpAny (model X.prog X.w) (A.deeper (lamEnv X scope s.heap.objs.size f c')) (leaving (lamEnv X scope s.heap.objs.size f c') e) (fun _ s'' => L2N.CX X.prog X.w outer H s E e s'') (fun e' s'' => L2N.CX X.prog X.w outer H s E e' s'') s' }
theorem inv_lamN {X : Cx} {A : Around} {outer : List Env} {s s' : Shared} {H H' : Hp} {E : XK} {scope : Scope} {f c' : Addr} {pins : List (Addr × Obj)} {σ : L2.St} (I : Inv (LamX.lamCx X A outer s H E scope f c') pins σ H' s') : Inv (lamCx X A outer s H E scope f c') pins σ H' s' :=
  Inv.unwish (E := (LamX.lamCx X A outer s H E scope f c').xe) I
section
variable {X : Cx} {pins : List (Addr × Obj)} {σ : L2.St} {H : Hp} {s : Shared}
theorem lam_new {c P : Addr} {params : Arguments} {body : Expr} {scope : Scope} {pos : Pos} {E : Value → Shared → Prop} {Q : Value → Shared → Prop} (I : Inv X pins σ H s) (TB : TabB X.base X.mg c P) (hcode : X.env.code = .ref c)
    (hT : TabS H P (X.env.qual ++ "<lambda>")) (hdef : defaultsOf params X.env = ([], [])) (hfree : ∀ y ∈ scope.names, y.2 = .free → ∃ c, X.env.cells.lookup y.1 = some c)
    (h : ∀ (f c' : Addr) (pm ctv : Value) (H1 : Hp) (s' : Shared), Inv X pins σ H1 s' → (∀ b o, H b = some o → b ≠ P → H1 b = some o) → (∃ ps, H1 P = some (.tbl ps)) → TabS H1 P (X.env.qual ++ "<lambda>") →
      s'.heap.get? f = some (PySem.W.kla_obj "<lambda>" (X.env.qual ++ "<lambda>") params body scope (cloFrom X.env.cells scope.names []) pm c' ctv) → H1 f = none → f ∉ frs X.stack → H1 c' = some (CodeO c' (X.env.qual ++ "<lambda>")) →
      (H c' = none ∨ H c' = some (CodeO c' (X.env.qual ++ "<lambda>"))) → Q (.ref f) s') :
    wpAny (model X.prog X.w) X.A (eval (.Lambda params body scope pos) X.env) Q E s := by
  obtain ⟨ps, hP, ht, ha⟩ := id hT
  refine PySem.W.kla_eval hdef ?_
  have bP := TB.bm.keeps I.bk
  have hP' := I.hok P _ hP
  have away : ∀ f, s.heap.objs.size ≤ f → f ∉ frs X.stack := fun f hf z => by
    rcases List.mem_cons.mp (I.stkSub _ z) with e | e
    · exact Nat.lt_irrefl _ (Nat.lt_of_lt_of_le (by rw [e]; exact I.lt) hf)
    · exact I.nofs hf e
  cases hc : codeAmong pos ps.toList with
  | some cv =>
    obtain ⟨c', rfl, hco⟩ := ha pos cv hc
    refine PySem.W.kla_makeFunctionHit (mg := X.mg) (c := c) (P := P) (ps := ps) (closure_ok hfree) I.ok.glob (I.mod.glob.keeps I.bk) hcode (TB.code.keeps I.bk) hP' ht hc bP fun ctv h' tk hx hsz => ?_
    exact h h'.objs.size c' _ ctv H _ (I.kept fun b o e => Heap.get?_push_of_some _ (hx b o e)) (fun b o e _ => e) ⟨ps, hP⟩ hT (Heap.get?_push_size _ rfl) (I.hok.fresh hsz) (away _ hsz) hco (.inr hco)
  | none =>
    refine PySem.W.kla_makeFunction (mg := X.mg) (c := c) (P := P) (ps := ps) (closure_ok hfree) I.ok.glob (I.mod.glob.keeps I.bk) hcode (TB.code.keeps I.bk) hP' ht hc TB.gP bP fun c' ctv h' tk hx hge hlt hrec htb => ?_
    obtain ⟨c2, oc, vs, t, e2, hoc, hd, hv⟩ := hrec
    cases e2
    have hsz := Nat.le_trans hge (Nat.le_of_lt hlt)
    have nC : H c' = none := I.hok.fresh hge
    have I1 := LamX.inv_table (t' := tk) (more := #[rawInt pos.line, rawInt pos.col, .ref c']) (h' := h'.push (PySem.W.kla_obj "<lambda>" (X.env.qual ++ "<lambda>") params body scope (cloFrom X.env.cells scope.names []) ((X.mg "__name__").getD .none) c' ctv)) I hP
      (fun b o hb e => Heap.get?_push_of_some _ (hx b o hb e)) (Heap.get?_push_of_some _ htb) hge ⟨oc, vs, t, Heap.get?_push_of_some _ hoc, hd, hv⟩
    have keep : ∀ b o, H b = some o → b ≠ P → upd (upd H P (.tbl (ps ++ #[rawInt pos.line, rawInt pos.col, .ref c']))) c' (CodeO c' (X.env.qual ++ "<lambda>")) b = some o := fun b o e n => by
      rw [upd_ne (ne_of_none e nC), upd_ne n]
      exact e
    have hPn : upd (upd H P (.tbl (ps ++ #[rawInt pos.line, rawInt pos.col, .ref c']))) c' (CodeO c' (X.env.qual ++ "<lambda>")) P = some (.tbl (ps ++ #[rawInt pos.line, rawInt pos.col, .ref c'])) := by
      rw [upd_ne (ne_of_none hP nC), upd_same]
    have eL : (ps ++ #[rawInt pos.line, rawInt pos.col, .ref c']).toList = ps.toList ++ [rawInt pos.line, rawInt pos.col, .ref c'] := by simp
    refine h h'.objs.size c' _ ctv _ _ I1 keep ⟨_, hPn⟩ ⟨_, hPn, by rw [eL]; exact PySem.TriplesOk_snoc _ _ _ _ ht, fun p' cv hcv => ?_⟩ (Heap.get?_push_size _ rfl) ?_ (away _ hsz) upd_same (.inl nC)
    · rw [eL] at hcv
      rcases LamX.among_app _ ht hcv with z | z
      · obtain ⟨c0, e1, e2⟩ := ha p' cv z
        refine ⟨c0, e1, keep _ _ e2 fun z => ?_⟩
        rw [z, hP] at e2
        exact LamX.codeO_ne ps (Option.some.inj e2).symm
      · exact ⟨c', z, upd_same⟩
    · rw [upd_ne (Nat.ne_of_gt hlt), upd_ne (Nat.ne_of_gt (Nat.lt_of_lt_of_le (Heap.lt_size hP') hsz))]
      exact I.hok.fresh hsz
end
section
variable {K : PySem.W.Frag} {mg : Str → Option Value} {S S' : Sto} {H H1 : Hp} {P : Addr} {q : Str}
theorem StO.noext (s : StO K mg S H) {a : Addr} {φ : Heap → Prop} (h : H a = some (.ext φ)) : S a = none := by
  cases e : S a with
  | none => rfl
  | some c =>
    obtain ⟨o, q, r⟩ := s a c e
    rw [h] at q; cases q
    have no : ∀ {lk : Option HO} {u : HO}, Lk lk (.ext φ) u → (∀ φ, u ≠ .ext φ) → False := fun {lk u} l n => by
      cases lk with
      | none => exact n _ (Eq.symm l)
      | some k =>
        obtain ⟨rfl, o, e⟩ := l
        cases e
    cases r with
    | dK l _ => exact (no l fun _ z => by cases z).elim
    | dT l _ => exact (no l fun _ z => by cases z).elim
theorem lam_sto (s : StO K mg S H) (hm : (P, q) ∈ tabsK K) (hu : ∀ p ∈ tabsK K, p.1 = P → p.2 = q) (hl : lamB K = true) (keep : ∀ b o, H b = some o → b ≠ P → H1 b = some o) (hP : ∃ ps, H1 P = some (.tbl ps)) (hT : TabS H1 P q) : StO K mg S H1 ∧ Tr S H S H1 := by
  obtain ⟨nP, ps0, hP0, _⟩ := s.tab hl _ hm
  have tr : Tr S H S H1 := by
    refine ⟨fun a o e n k => keep a o e fun z => ?_, fun a ps e n => ?_, fun a n m => absurd n m⟩
    · rw [z, hP0] at e; cases e
      exact k _ rfl
    · by_cases z : a = P
      · rw [z]; exact hP
      · exact ⟨ps, keep a _ e z⟩
  have kp := tr.kp s
  refine ⟨⟨fun a c e => ?_, fun _ p hp => ?_⟩, tr⟩
  · obtain ⟨o, h, r⟩ := s a c e
    refine ⟨o, keep a o h fun z => ?_, r.mono kp⟩
    rw [z, nP] at e; cases e
  · by_cases z : p.1 = P
    · rw [z, hu p hp z]
      obtain ⟨ps, h1, h2, h3⟩ := hT
      refine ⟨nP, ps, h1, h2, fun pos cv hc => ?_⟩
      obtain ⟨c, e1, e2⟩ := h3 pos cv hc
      refine ⟨c, e1, ?_, e2⟩
      cases e : S c with
      | none => rfl
      | some x =>
        obtain ⟨o, h, r⟩ := s c x e
        have hc1 : H1 c = some o := keep c o h fun z => by rw [z, nP] at e; cases e
        rw [e2] at hc1
        cases hc1
        have := s.noext (φ := _) h
        rw [this] at e; cases e
    · obtain ⟨n, ps, h1, h2, h3⟩ := s.tab hl p hp
      refine ⟨n, ps, keep _ _ h1 z, h2, fun pos cv hc => ?_⟩
      obtain ⟨c, e1, e2, e3⟩ := h3 pos cv hc
      exact ⟨c, e1, e2, keep _ _ e3 fun z => by
        rw [z, hP0] at e3
        exact LamX.codeO_ne ps0 (Option.some.inj e3).symm⟩
end
section
variable {X : Cx} {pins : List (Addr × Obj)} {σ : L2.St} {H : Hp} {s : Shared}
theorem pe_act2 {CXg : CXT} {Eg : XK} {Ng : List Str} {qg : Str} {sg : Scope} {g f c' : Addr} {cdg pm ctv : Value} {params : Arguments} {body : Expr} {scope : Scope} {k i : Nat} {a : Str} {pn : List (Addr × Obj)} {xe : Value → Shared → Prop} {W : WX} {tb : XK → TE} {p1 p2 : Pos}
    (I : Inv X pins σ H s) (L : LamS X.env.scope scope) (hf : s.heap.get? f = some (PySem.W.kla_obj "<lambda>" (X.env.qual ++ "<lambda>") params body scope (cloFrom X.env.cells scope.names []) pm c' ctv)) (hfn : H f = none) (hfr : f ∉ frs X.stack)
    (hbind : bindArgs (PySem.W.kla_fn "<lambda>" (X.env.qual ++ "<lambda>") params body scope (cloFrom X.env.cells scope.names []) pm (.ref c') ctv) ⟨[], []⟩ = pure [])
    (tk : L2N.Takes ((cxOf CXg X.prog X.w X.K X.mg X.base Ng qg sg g cdg X.A X.stack s H Eg).tr pn xe) W) (hr : RoomG (k + 1) (X.A.deeper (envOfC qg sg s.heap.objs.size g cdg)))
    (hbody : ∀ (A : Around) (outer : List Env) (s : Shared) (H : Hp) (E : XK), RoomG k (A.deeper (lamEnv X scope s.heap.objs.size f c')) → PE (lamCx X A outer s H E scope f c') body (tb E))
    (hN : Ng[i]? = some a) (hv : Vis sg a) (hd : (a == ("__debug__" : Str)) = false) (hcd : (a == ("__classdict__" : Str)) = false) :
    PE ((cxOf CXg X.prog X.w X.K X.mg X.base Ng qg sg g cdg X.A X.stack s H Eg).tr pn xe) (.Call (.Name a p1) [] [] p2)
      (fun σZ HZ Q => σZ[i]? = some (some (.ref f)) ∧ HZ c' = some (CodeO c' (X.env.qual ++ "<lambda>")) ∧ tb (WE W σZ) σ HZ Q) := by
  refine ⟨fun pinsZ sZ σZ HZ Q IZ ⟨hs, hc, ht⟩ => ?_⟩
  refine wpAny_Call_Name_kw (thn ((pe_var (pos := p1) (i := i) hN hv hd hcd).run pinsZ sZ σZ HZ (fun v H1 => v = .ref f ∧ H1 = HZ) IZ ⟨.ref f, hs, rfl, rfl⟩) fun u s1 ⟨v, H1, I1, r1, q1⟩ => ?_)
  obtain ⟨rfl, rfl⟩ := q1
  obtain rfl : u = Value.ref f := r1
  have of1 := I1.base.keep f _ hf hfn hfr (fun z => nomatch (show f ∈ ([] : List Addr) from z))
  refine PySem.W.callWith_F0 ⟨_, _, _, _, of1⟩ ?_
  have un : Un (frs X.stack) [] H H1 s.heap s1.heap := I1.base
  obtain ⟨⟨oc, vs, t, hoc, hdc, hvc⟩, _, _⟩ := I1.hok c' _ hc
  have rc : codeAny (model X.prog X.w) (X.A.deeper (envOfC qg sg s.heap.objs.size g cdg)) (.call (.ref f) ⟨[], []⟩) (CR (L2N.CX X.prog X.w) (envOfC qg sg s.heap.objs.size g cdg :: X.stack) X.prog X.w H1 s1 Q (WE W σZ)) s1 := by
    refine PySem.W.kla_callFunE hr.r.depth of1 rfl L.co L.gen rfl ⟨c', oc, vs, t, rfl, hoc, hdc, hvc⟩ ?_
    rw [hbind]
    refine wpAny_pure (wpAny_newFunctionEnv (fun y hy => (L.own y hy).2) (fun y hy => absurd hy (by simp)) (fun h₁ hns hsb => ⟨I1.nolimit.fresh _ hsb, ?_⟩) L.kind)
    show codeAny _ _ (.expr body (lamEnv X scope s1.heap.objs.size f c')) _ _
    have J : Inv (lamCx X (X.A.deeper (envOfC qg sg s.heap.objs.size g cdg)) (envOfC qg sg s.heap.objs.size g cdg :: X.stack) s1 H1 (WE W σZ) scope f c') [] σ H1 { s1 with heap := h₁, toks := s1.toks + ([] : List (Str × Value)).length } :=
      inv_lamN (LamX.lam_start2 I L I1.env0 hr.r.hd un hns fun b o e => hsb.extBut b o (Nat.ne_of_lt (Heap.lt_size e)) (Heap.get?_push_of_some _ e))
    refine PySem.W.kla_codeExpr (wpAny_mono ((hbody _ _ s1 H1 _ (hr.deeper _)).run [] _ _ H1 Q J ht) (fun v s' hq => ?_) fun e s' hq => hq)
    obtain ⟨w', H', J', rv, q⟩ := hq
    exact ⟨w', H', J'.os, J'.bare, J'.base, J'.hok, rv, q⟩
  have hx := L2N.passAt tk σZ
  refine wpAny_call (codeAny_mono rc fun r s' hq => ?_)
  rcases r with e | (_ | _ | _ | u)
  · exact hx pinsZ H1 s1 e s' I1 hq
  · exact False.elim hq
  · exact False.elim hq
  · exact False.elim hq
  · exact I1.after hq
theorem run_here {CX : CXT} {P : Program} {w : World} {K : PySem.W.Frag} {mg : Str → Option Value} {base : Heap} {k : Nat} {f : Addr} {name qual : Str} {params : Arguments} {body : List Stmt} {scope : Scope} {dV kV doc pm cdv ct oc : Value} {an od : Option Addr}
    {osl : Array (Option Value)} {N ps : List Str} (lk : K.lookup f = some ⟨oc, od, .func (PySem.W.fnOf name qual params body scope dV kV doc pm an cdv ct), osl⟩) (hcd : PySem.W.codeIn K cdv qual = true) (S : FnScope N ps scope)
    {A : Around} {outer : List Env} {s : Shared} {H : Hp} {args : Args} {us : List Value} {vs : List V} {Q : VK} {E : XK} (hr : RoomG (k + 1) A) (e0 : Env0 P w K mg base A outer s H) (hb : BindsTo s (PySem.W.fnOf name qual params body scope dV kV doc pm an cdv ct) args (ps.zip us)) (r : Vals vs us) (hl : vs.length = ps.length)
    (hbody : RoomG k (A.deeper (envOfC qual scope s.heap.objs.size f cdv)) → ∃ t, PSs (cxOf CX P w K mg base N qual scope f cdv A outer s H E) body t ∧ t { nx := fun _ H' => Q .non H', rt := Q } (L2.start N vs) H) :
    codeAny (model P w) A (.call (.ref f) args) (CR CX outer P w H s Q E) s := by
  have KX : K.In s.heap := e0.mod.kin.keeps fun b o e => (e0.bs b o e).1
  have lim : s.heap.NoLimit := e0.mod.nolimit.keeps fun b o e => (e0.bs b o e).1
  have hkind : ∀ y ∈ ps.zip us, scope.names.lookup y.1 = some .local ∨ (scope.names.lookup y.1 = some .cell ∧ ((cellsFrom (s.heap.objs.size + 1) scope.names []).lookup y.1).isSome = true) := fun ⟨n, v⟩ hy =>
    (S.par n (List.of_mem_zip hy).1).imp id fun q => ⟨q, PySem.W.cellsFrom_some _ _ _ (.inl q)⟩
  refine codeAny_call_function hr.r.depth (KX _ _ lk) rfl S.co S.gen rfl (PySem.W.codeRec_of KX hcd) (hb _ _ _ _ ?_)
  refine wpAny_newFunctionEnv_cells S.kind hkind fun env he s1 x => ?_
  subst he
  refine ⟨lim.keeps x.toInCall.keep, codeAny_func ?_⟩
  obtain ⟨t, ht, hq⟩ := hbody (hr.deeper _)
  refine wpAny_mono (ht.run [] s1 (L2.start N vs) H _ (inv_start S hr.r.hd e0 hl r x) hq) (fun fl s' hs => ?_) fun e s' hs => hs
  have fin : ∀ {σ' : L2.St} {H' : Hp} {v : V} {u : Value}, Inv (cxOf CX P w K mg base N qual scope f cdv A outer s H E) [] σ' H' s' → RelV v u → Q v H' → CE outer P w H s Q u s' :=
    fun {σ' H' v u} J rv q => ⟨v, H', J.os, J.bare, J.base, J.hok, rv, q⟩
  rcases fl with _ | _ | _ | u
  all_goals first
    | (obtain ⟨v, σ', H', J, rv, q⟩ := hs; exact fin J rv q)
    | (obtain ⟨σ', H', J, q⟩ := hs; exact fin (v := V.non) (u := Value.none) J rfl q)
    | (obtain ⟨_, _, _, q⟩ := hs; exact False.elim q)
end
def dMk (f : Addr) (tb : EXn → DE) (ρc : Nv) (EX : EXn) : DE := fun ρ S Q => ρ[0]? = some (some (.ref f)) ∧ tb (fun e _ S' => EX e ρ S') ρc S Q
def dLam (n : Nat) (dh : (EXn → DE) → (Exc → Sto → Prop) → DS) (tb : EXn → DE) (EX : EXn) : DE := fun ρ S Q => ∀ f, S f = none → dh (dMk f tb ρ) (fun e S' => EX e ρ S') { nx := fun _ S' => Q .non S', rt := Q } (startD n [.ref f]) S
def MkOk (G : Cx) (Z : Zb) (a : Str) (mk : EXn → DE) : Prop := ∀ (EX : EXn) (Z' : Zb) (pn : List (Addr × Obj)) (xe : Value → Shared → Prop), Tr Z.S Z.H Z'.S Z'.H → L2N.Takes (G.tr pn xe) (upW G.K G.mg Z' EX) → ∀ p1 p2, SE (G.tr pn xe) Z' (.Call (.Name a p1) [] [] p2) (mk EX)
section
variable {X : Cx} {Z : Zb} {x a : Str} {st : Stmt} {Ng : List Str} {c P : Addr} {k : Nat} {params : Arguments} {body : Expr} {scope : Scope} {EX : EXn} {dh : (EXn → DE) → (Exc → Sto → Prop) → DS} {tb : EXn → DE} {p lpos pos : Pos}
theorem s_lam (hF : ∃ (g : Addr) (fd : FuncData), X.mg x = some (.ref g) ∧ Fun X.K x x st g fd) (hbi : ∀ (g : Addr) (fd : FuncData), Fun X.K x x st g fd → L2.Binds X.K fd [a] []) (Sg : FnScope Ng [a] (defScope st)) (hNg : Ng[0]? = some a) (hva : Vis (defScope st) a)
    (hG : ∀ (g : Addr) (cdv : Value) (A : Around) (outer : List Env) (s : Shared) (H : Hp) (E : XK) (Z' : Zb) (EP : Exc → Sto → Prop) (mk : EXn → DE), RoomG (k + 1) (A.deeper (envOfC x (defScope st) s.heap.objs.size g cdv)) →
      L2N.Takes (cxD X.prog X.w X.K X.mg X.base Ng x st g cdv A outer s H E) (upW X.K X.mg Z' fun e _ S' => EP e S') → MkOk (cxD X.prog X.w X.K X.mg X.base Ng x st g cdv A outer s H E) Z' a mk →
      SSs (cxD X.prog X.w X.K X.mg X.base Ng x st g cdv A outer s H E) Z' (defBody st) (dh mk EP))
    (hm : (P, X.env.qual ++ "<lambda>") ∈ tabsK X.K) (hu : ∀ p ∈ tabsK X.K, p.1 = P → p.2 = X.env.qual ++ "<lambda>") (hl : lamB X.K = true) (TB : TabB X.base X.mg c P) (hcode : X.env.code = .ref c)
    (hr : RoomG (k + 2) X.A) (tk : L2N.Takes X (upW X.K X.mg Z EX)) (hg : Gl X x) (L : LamS X.env.scope scope) (hdef : defaultsOf params X.env = ([], []))
    (hbind : ∀ (q : Str) (cl : List (Str × Addr)) (pm cv ctv : Value), bindArgs (PySem.W.kla_fn "<lambda>" q params body scope cl pm cv ctv) ⟨[], []⟩ = pure [])
    (hbody : ∀ (A : Around) (outer : List Env) (s : Shared) (H : Hp) (E : XK) (f c' : Addr) (Zb : Zb) (EXb : EXn), RoomG k (A.deeper (lamEnv X scope s.heap.objs.size f c')) → L2N.Takes (lamCx X A outer s H E scope f c') (upW X.K X.mg Zb EXb) → SE (lamCx X A outer s H E scope f c') Zb body (tb EXb))
    (hdb : (x == ("__debug__" : Str)) = false) (hd : (a == ("__debug__" : Str)) = false) (hcd : (a == ("__classdict__" : Str)) = false) :
    SE X Z (.Call (.Name x p) [.Lambda params body scope lpos] [] pos) (dLam Ng.length dh tb EX) := by
  obtain ⟨g, fd, hmg, F⟩ := hF
  have hb := hbi g fd F
  obtain ⟨⟨oc, od, kV, doc, pm, an, cdv, ct, osl, rfl, lk, hcg⟩, kp⟩ := F
  refine ⟨fun pins s σ H Q I ⟨ρ, S, P', r, st0, z, h, kk⟩ => ?_⟩
  refine wpAny_Call_Name_kw (ld_glob I hg hmg ?_ hdb)
  refine PySem.W.callWith_K (h₀ := X.base) I.ok.mod.kin kp ?_ (by rfl) (by rfl)
  show wpAny _ _ (spliced ((false, eval (.Lambda params body scope lpos) X.env) :: backTo pos (starEach [] X.env))) _ _ s
  have t0 : TabS H P (X.env.qual ++ "<lambda>") := by
    obtain ⟨_, ps, h1, h2, h3⟩ := st0.tab hl _ hm
    exact ⟨ps, h1, h2, fun pos cv hc => let ⟨c, e1, _, e2⟩ := h3 pos cv hc; ⟨c, e1, e2⟩⟩
  refine Calls.spliced_cons (lam_new I TB hcode t0 hdef (L.has I.ok) fun f c' pm' ctv H1 s' I1 keep hPt hT1 hf hfn hfr hco hc0 => ?_)
  obtain ⟨s1, t1⟩ := lam_sto st0 hm hu hl keep hPt hT1
  have nf : S f = none := s1.free hfn
  have nc : S c' = none := by
    rcases hc0 with e | e
    · exact st0.free e
    · exact st0.noext e
  refine Calls.spliced_nil ⟨I1.kIn, ?_⟩
  have rc : codeAny (model X.prog X.w) X.A (.call (.ref g) ⟨[.ref f], []⟩) (CR (L2N.CX X.prog X.w) X.stack X.prog X.w H1 s' Q (WE (upW X.K X.mg Z EX) σ)) s' := by
    refine run_here (N := Ng) (ps := [a]) (us := [.ref f]) (vs := [.ref f]) lk hcg Sg hr I1.env0 (hb s' [.ref f] I1.kIn rfl) (.cons rfl .nil) rfl fun hr' => ?_
    have mkok : MkOk (cxD X.prog X.w X.K X.mg X.base Ng x st g cdv X.A X.stack s' H1 (WE (upW X.K X.mg Z EX) σ)) ⟨S, H1⟩ a (dMk f tb ρ) := by
      intro EXm Z' pn xe trm tkm p1 p2
      refine peI (pe_act2 (i := 0) (W := upW X.K X.mg Z' EXm) (tb := fun E σ H Q => ∃ (Zb : Zb) (EXb : EXn), (∀ cls d σ' H', upW X.K X.mg Zb EXb cls d σ' H' → E cls d H') ∧ upE X.K X.mg Zb (tb EXb) σ H Q) I1 L hf hfn hfr (hbind _ _ _ _ _) tkm hr'
        (fun A outer s H E hr2 => ⟨fun pins s0 σ0 H0 Q0 I0 ⟨Zb, EXb, imp, hu⟩ => (hbody A outer s H E f c' Zb EXb hr2 (L2N.Takes.imp (L2N.takes_of rfl rfl rfl rfl) fun cls d σ' H' w => imp cls d σ' H' w)).run pins s0 σ0 H0 Q0 I0 hu⟩) hNg hva hd hcd) fun σZ HZ QZ hz => ?_
      obtain ⟨ρZ, SZ, PZ, rZ, sZ, zZ, ⟨hslot, hbt⟩, kZ⟩ := hz
      obtain ⟨v, hv, rv⟩ := rZ.get 0 _ hslot
      cases rv
      have tall : Tr S H1 SZ HZ := trm.trans zZ
      refine ⟨hv, tall.keep _ _ hco nc (fun ps => LamX.codeO_ne ps), ⟨SZ, HZ⟩, _, fun cls d σ' H' ⟨e, ρ', S', r', s'', t', rx, hx⟩ => ⟨e, ρZ, S', t'.rpS sZ rZ, s'', zZ.trans t', rx, hx⟩, ρ, SZ, PZ, tall.rpS s1 (t1.rpS st0 r), sZ, Tr.refl _ _, hbt, kZ⟩
    refine ⟨_, hG g cdv X.A X.stack s' H1 (WE (upW X.K X.mg Z EX) σ) ⟨S, H1⟩ (fun e S' => EX e ρ S') (dMk f tb ρ) hr' (L2N.Takes.imp (L2N.takes_of rfl rfl rfl rfl) fun cls d σ' H2 ⟨e, ρ', S2, r2, s2, z2, re, he⟩ => ?_) mkok, ?_⟩
    · exact ⟨e, ρ, S2, (t1.trans z2).rpS st0 r, s2, z.trans (t1.trans z2), re, he⟩
    · refine ⟨startD Ng.length [.ref f], S, _, rpS_start (.one (.ref f)) Ng, s1, Tr.refl _ _, h f nf, ⟨fun ρ' S2 σ' H' t' s' r' h' => kk _ _ _ _ (t1.trans t') s' .non h', kk.at t1, fun _ _ _ _ _ _ _ z => z.elim, fun _ _ _ _ _ _ _ z => z.elim⟩⟩
  refine wpAny_call (codeAny_mono rc fun r s2 hq => ?_)
  rcases r with e | (_ | _ | _ | u)
  · exact L2N.passAt tk σ pins H1 s' e s2 I1 hq
  · exact False.elim hq
  · exact False.elim hq
  · exact False.elim hq
  · exact I1.after hq
end
end DL
set_option Elab.async false
set_option linter.all false
set_option maxRecDepth 100000
set_option maxHeartbeats 4000000
namespace DL
open PySem PySem.Spec PyProof.Rows L2 RZ
theorem lawGT {P : Program} {w : World} {K : PySem.W.Frag} {mg mb : Str → Option Value} {k : Nat} {fa a : Addr} {cs : List (Addr × Addr)} {x : Str} {sp : FSp} {s₁ : Shared} {vs : List Value} {ns : List Int}
    (KX : K.In s₁.heap) (hns : s₁.heap.Ns mainGlobals mg) (hb : s₁.heap.Ns builtinsNs mb) (hbb : ∀ x : Str, x ≠ "__name__" → mb x = bootBuiltins x) (hlim : s₁.heap.NoLimit) (hg : s₁.gens = #[])
    (hT : ∀ p ∈ cs, s₁.heap.get? p.2 = some { cls := .none, data := .fields #[] }) (nT : ∀ p ∈ cs, K.lookup p.2 = none) (C : ∀ p ∈ cs, PySem.W.CodeHd s₁.heap p.1 p.2)
    (hbm : ∃ (bm : Addr) (ob : Obj), mg "__builtins__" = some (.ref bm) ∧ bm ≠ builtinsNs ∧ s₁.heap.get? bm = some ob ∧ ob.cls = .type "module" ∧ ob.dict = some builtinsNs ∧ ob.data = .plain)
    (ha : s₁.heap.get? a = some { cls := .type "list", data := .seq vs.toArray }) (hi : IntsAre vs ns) (hl : ns.length ≤ sizeLine) (hr : Room k callerA)
    (hfa : mg x = some (.ref fa)) (hcs : ∀ p ∈ tabsK K, p.1 ∈ cs.map (·.2)) (F : ∀ base : Heap, K.In base → base.Ns mainGlobals mg → (∀ p ∈ cs, LamX.TabB base mg p.1 p.2) → Callee P w K mg base k x sp)
    (hsp : ∀ S : Sto, sp [.lw (ns.map D.int)] S (fun d _ => d = .bl true) fun _ _ => False) :
    codeAny (model P w) callerA (.call (.ref fa) ⟨[.ref a], []⟩) (fun r s' => r = .ok (.ret (.bool true)) ∧ OldK s₁.heap s'.heap ∧ s'.os = s₁.os ∧ AllBare s'.gens) s₁ := by
  have rv := vals_ints hi
  have lenV := hi.length
  have isT : ∀ b : Addr, b ∈ cs.map (·.2) → s₁.heap.get? b = some { cls := .none, data := .fields #[] } := fun b hb => by
    obtain ⟨p, hp, e⟩ := List.mem_map.mp hb
    rw [← e]
    exact hT p hp
  have aT : a ∉ cs.map (·.2) := fun z => by
    have q := isT a z
    rw [ha] at q
    have z' : Data.seq vs.toArray _ = Data.fields #[] := congrArg Obj.data (Option.some.inj q)
    cases z'
  have memT : ∀ p ∈ cs, p.2 ∈ cs.map (·.2) := fun p hp => List.mem_map.mpr ⟨p, hp, rfl⟩
  -- from an abstract heap in which nothing but the script and the tables may be tracked
  have core : ∀ H : Hp, (∀ p ∈ cs, H p.2 = some (.tbl #[])) → (∀ b, H b = none ∨ b ∈ cs.map (·.2) ∨ ∃ o xs, H b = some (.frz o (.lst xs))) → FrzL K H a (ns.map V.int) → HOk P w H s₁.heap → (∀ b, H b ≠ none → b = a ∨ b ∈ cs.map (·.2)) → (H a ≠ none → K.lookup a = none) →
      codeAny (model P w) callerA (.call (.ref fa) ⟨[.ref a], []⟩) (fun r s' => r = .ok (.ret (.bool true)) ∧ OldK s₁.heap s'.heap ∧ s'.os = s₁.os ∧ AllBare s'.gens) s₁ := by
    intro H hH hO hS hok hA hK
    have base_of : ∀ {b : Addr} {o : Obj}, s₁.heap.get? b = some o → H b = none → (hidT s₁.heap H).get? b = some o := fun e n => hidT_get e n
    have noD : ∀ {b : Addr} {o : Obj}, s₁.heap.get? b = some o → (∀ vs n, o.data ≠ .seq vs n) → o.data ≠ .fields #[] → H b = none := fun {b o} e h1 h2 => by
      cases q : H b with
      | none => rfl
      | some u =>
        rcases hA b (by rw [q]; simp) with e' | e'
        · rw [e', ha] at e
          cases e
          exact (h1 _ _ rfl).elim
        · rw [isT b e'] at e
          cases e
          exact (h2 rfl).elim
    have noA : ∀ {b : Addr} {o : Obj} {es : Array DictEntry} {ep : Nat}, s₁.heap.get? b = some o → o.data = .dict es ep → H b = none := fun {b o es ep} e d => by
      refine noD e (fun vs n z => ?_) fun z => ?_
      · rw [d] at z
        cases z
      · rw [d] at z
        cases z
    have nsK : ∀ {b : Addr} {m : Str → Option Value}, s₁.heap.Ns b m → (hidT s₁.heap H).Ns b m := fun {b m} ⟨o, es, ep, e, d, r⟩ => ⟨o, es, ep, base_of e (noA e d), d, r⟩
    have hKb : K.In (hidT s₁.heap H) := fun b o e => base_of (KX b o e) (by
      cases q : H b with
      | none => rfl
      | some u =>
        rcases hA b (by rw [q]; simp) with e' | e'
        · rw [e'] at e q
          rw [hK (by rw [q]; simp)] at e
          cases e
        · obtain ⟨p, hp, ep⟩ := List.mem_map.mp e'
          rw [← ep, nT p hp] at e
          cases e)
    have hM : L2.Mod K mg (hidT s₁.heap H) := ⟨hKb, nsK hns, ⟨mb, nsK hb, hbb⟩, let ⟨mc, h1, h2⟩ := hlim; ⟨mc, nsK h1, h2⟩⟩
    have TB : ∀ p ∈ cs, LamX.TabB (hidT s₁.heap H) mg p.1 p.2 := fun p hp => by
      have hTp := hT p hp
      refine ⟨?_, ?_, fun z => ?_⟩
      · obtain ⟨o, us, file, tf, flags, tg, inF, text, tt, e1, r1, r2, r3, r4, r5, r6, r7, r8, hne⟩ := C p hp
        refine ⟨o, us, file, tf, flags, tg, inF, text, tt, base_of e1 (noD e1 (fun vs n z => ?_) fun z => ?_), r1, r2, r3, r4, r5, r6, r7, r8, hne⟩
        · rw [r2] at z
          cases z
        · rw [r2] at z
          cases z
          simp at r3
      · obtain ⟨bm, ob, b1, b2, b3, b4, b5, b6⟩ := hbm
        have nG : bm ≠ mainGlobals := fun q => by
          obtain ⟨o, es, ep, e, hd, _⟩ := hns
          rw [q, e] at b3
          cases b3
          rw [hd] at b6
          cases b6
        have nP : bm ≠ p.2 := fun q => by
          rw [q, hTp] at b3
          cases b3
          cases b6
        refine ⟨bm, ob, b1, b2, nG, nP, base_of b3 (noD b3 (fun vs n z => ?_) fun z => ?_), b4, b5, b6⟩
        · rw [b6] at z
          cases z
        · rw [b6] at z
          cases z
      · obtain ⟨o, es, ep, e, hd, _⟩ := hns
        rw [z, hTp] at e
        cases e
        cases hd
    have e0 : Env0 P w K mg (hidT s₁.heap H) callerA [] s₁ H := ⟨rfl, hM, fun b o e => of_hidT e, Nat.le_of_eq (hidT_size _ _), trivial, fun b hb => absurd (show b ∈ ([] : List Addr) from hb) (by simp), hok, .of_eq hg⟩
    obtain ⟨f, fd, ps, hm, hk, hbd, Fn⟩ := (F _ hKb (nsK hns) TB).ex
    rw [hfa] at hm
    cases hm
    have tabs0 : TabsM K (fun _ => none) H := fun _ p hp => by
      obtain ⟨z, hz, e⟩ := List.mem_map.mp (hcs p hp)
      refine ⟨rfl, #[], by rw [← e]; exact hH z hz, True.intro, fun pos cv hc => ?_⟩
      simp [codeAmong] at hc
    have hsp' : lift K mg sp [.ref a] H (fun v _ => v = .bl true) fun _ _ _ => False :=
      ⟨[.lw (ns.map D.int)], fun _ => none, _, _, .one (.lw hS (RpL.of_ints ns)), ⟨fun _ _ e => (nomatch e), tabs0⟩, hsp _, fun d S' v H' t s r e => by
        have e' : d = .bl true := e
        subst e'; cases r; rfl, fun _ _ _ _ _ _ _ _ z => z⟩
    have hlen := Fn.len _ _ _ _ hsp'
    refine codeAny_mono (Fn.run callerA [] s₁ H ⟨[.ref a], []⟩ [.ref a] [.ref a] _ _ ⟨hr, rfl⟩ e0 (by
      have z := hbd s₁ [.ref a] KX (by simpa using hlen)
      simpa using z) (.cons rfl .nil) hsp') fun r s' h => ?_
    cases r with
    | error e =>
      obtain ⟨_, _, _, _, _, _, _, _, _, _, _, _, z⟩ := h
      exact z.elim
    | ok fl =>
      cases fl with
      | next => exact False.elim h
      | brk => exact False.elim h
      | cont => exact False.elim h
      | ret u =>
        obtain ⟨v, H', os, bare, un, hok', r', q⟩ := h
        have q' : v = .bl true := q
        subst q'
        obtain rfl : u = Value.bool true := r'
        have key : ∀ b o, b ∉ cs.map (·.2) → s₁.heap.get? b = some o → s'.heap.get? b = some o := fun b o nb e => by
          cases q : H b with
          | none => exact un.keep b o e q (by intro z; exact absurd (show b ∈ ([] : List Addr) from z) (by simp)) (by simp)
          | some u =>
            rcases hO b with z | z | ⟨ob, xs, z⟩
            · rw [q] at z; cases z
            · exact absurd z nb
            · have z2 := un.frzs b ob _ z
              obtain ⟨e1, _⟩ := hok b _ z
              obtain ⟨e2, _⟩ := hok' b _ z2
              rw [e] at e1; cases e1
              exact e2
        have grown : ∀ p ∈ cs, ∃ more : Array Value, s'.heap.get? p.2 = some { cls := .none, data := .fields more } := fun p hp => by
          obtain ⟨more, z⟩ := un.tbls p.2 #[] (hH p hp)
          exact ⟨_, hok' p.2 _ z⟩
        refine ⟨rfl, ⟨fun b o e => ?_, fun b o e => ?_⟩, os, bare⟩
        · by_cases hb : b ∈ cs.map (·.2)
          · obtain ⟨p, hp, ep⟩ := List.mem_map.mp hb
            obtain ⟨more, hm⟩ := grown p hp
            rw [← ep] at e ⊢
            rw [hT p hp] at e
            cases e
            exact .inr (.inl ⟨((C p hp).tab (hT p hp)).isCodeTable, rfl, #[], more, rfl, by rw [Array.empty_append]; exact hm⟩)
          · exact .inl (key b o hb e)
        · by_cases hb : b ∈ cs.map (·.2)
          · obtain ⟨p, hp, ep⟩ := List.mem_map.mp hb
            obtain ⟨more, hm⟩ := grown p hp
            rw [← ep]
            exact ⟨_, hm⟩
          · exact ⟨o, key b o hb e⟩
  cases hk : K.lookup a with
  | some o =>
    have e := KX a o hk
    rw [ha] at e
    cases e
    refine core (fun b => if b ∈ cs.map (·.2) then some (.tbl #[]) else none) (fun p hp => if_pos (memT p hp)) (fun b => ?_) (.inr ⟨_, vs.toArray, _, hk, rfl, rfl, rfl, by rw [List.size_toArray, lenV]; exact hl, by simpa using rv⟩) (fun b u z => ?_) (fun b z => ?_) fun z => absurd (show (if a ∈ cs.map (·.2) then some (HO.tbl #[]) else none) = none from if_neg aT) z
    · by_cases hb : b ∈ cs.map (·.2)
      · exact .inr (.inl hb)
      · exact .inl (if_neg hb)
    · by_cases hb : b ∈ cs.map (·.2)
      · have z' := (if_pos hb).symm.trans z
        cases z'
        exact isT b hb
      · have z' := (if_neg hb).symm.trans z
        cases z'
    · by_cases hb : b ∈ cs.map (·.2)
      · exact .inr hb
      · exact absurd (if_neg hb) z
  | none =>
    refine core (fun b => if b = a then some (.frz { cls := .type "list", data := .seq vs.toArray } (.lst (ns.map V.int))) else if b ∈ cs.map (·.2) then some (.tbl #[]) else none) (fun p hp => (if_neg (show ¬ p.2 = a from fun z => aT (by rw [← z]; exact memT p hp))).trans (if_pos (memT p hp))) (fun b => ?_)
      (.inl ⟨{ cls := .type "list", data := .seq vs.toArray }, if_pos rfl⟩) (fun b u z => ?_) (fun b z => ?_) fun _ => hk
    · by_cases hb : b = a
      · exact .inr (.inr ⟨_, _, if_pos hb⟩)
      · by_cases hb2 : b ∈ cs.map (·.2)
        · exact .inr (.inl hb2)
        · exact .inl ((if_neg hb).trans (if_neg hb2))
    · by_cases hb : b = a
      · have z' := (if_pos hb).symm.trans z
        cases z'
        rw [hb]
        exact ⟨ha, by rw [List.length_map]; exact hl, vs, _, rv, ha⟩
      · have z1 := (if_neg hb).symm.trans z
        by_cases hb2 : b ∈ cs.map (·.2)
        · have z' := (if_pos hb2).symm.trans z1
          cases z'
          exact isT b hb2
        · have z' := (if_neg hb2).symm.trans z1
          cases z'
    · by_cases hb : b = a
      · exact .inl hb
      · by_cases hb2 : b ∈ cs.map (·.2)
        · exact .inr hb2
        · exact absurd ((if_neg hb).trans (if_neg hb2)) z
structure TabsH (K : PySem.W.Frag) (h : Heap) (cs : List (Addr × Addr)) : Prop where
  all : ∀ p ∈ tabsK K, p.1 ∈ cs.map (·.2)
  empty : ∀ p ∈ cs, h.get? p.2 = some { cls := .none, data := .fields #[] }
  out : ∀ p ∈ cs, K.lookup p.2 = none
  hd : ∀ p ∈ cs, PySem.W.CodeHd h p.1 p.2
theorem walkGT {l : PySem.W.OpenLaw} {n k : Nat} {q : Program} {loose : List Str} {XP : (Str → Option Value) → Heap → Prop} {YP : World → Heap → Prop} {d : DefRec} {sp : FSp}
    (hn : l.most = some n) (hn2 : n ≤ sizeLine) (hdf : d.params.defaults = []) (hr : Room k callerA)
    (F : ∀ (w : World) (mg : Str → Option Value) (h : Heap), YP w h → h.Ns mainGlobals mg →
      ∃ (K : PySem.W.Frag) (cs : List (Addr × Addr)), K.In h ∧ TabsH K h cs ∧ ∀ base : Heap, K.In base → base.Ns mainGlobals mg → (∀ p ∈ cs, LamX.TabB base mg p.1 p.2) → Callee l.prog w K mg base k d.name sp)
    (hsp : ∀ (ns : List Int), ns.length ≤ n → (∀ z ∈ ns, Builtin.Int.intBits z ≤ 1048576) → ∀ S : Sto, sp [.lw (ns.map D.int)] S (fun d _ => d = .bl true) fun _ _ => False) :
    PySem.W.WalkO q loose XP YP l.row.toRowW d [] (fun f vs => PySem.call f vs) := by
  refine Att.attach_callB hn hdf fun w s₀ s₁ mg mb fa o pm cd doc a vs ns G Y ho hd hcd hmg hobj hints hlen hbits hg => ?_
  obtain ⟨K, cs, KX, T, hF⟩ := F w mg _ Y G.T.g
  exact lawGT KX G.T.g G.T.b G.T.builtins G.T.nolimit hg T.empty T.out T.hd G.T.bmain hobj hints (Nat.le_trans hlen hn2) hr hmg T.all hF fun S => hsp ns hlen hbits S
def csK (K : PySem.W.Frag) : List (Addr × Addr) := K.filterMap fun p => match p.2.data with
  | .func fd => (match fd.code with
    | .ref c => some (c, He.tabOf K c)
    | _ => none)
  | _ => none
theorem csK_tabs {K : PySem.W.Frag} {p : Addr × Str} (h : p ∈ tabsK K) : p.1 ∈ (csK K).map (·.2) := by
  obtain ⟨q, hq, e⟩ := List.mem_filterMap.mp h
  split at e
  · rename_i fd hd
    split at e
    · rename_i c hc
      cases e
      refine List.mem_map.mpr ⟨(c, He.tabOf K c), List.mem_filterMap.mpr ⟨q, hq, ?_⟩, rfl⟩
      rw [hd]
      show (match fd.code with | .ref c => some (c, He.tabOf K c) | _ => none) = _
      rw [hc]
    · cases e
  · cases e
def tabG (g : Addr → Option Obj) (K : PySem.W.Frag) : Bool := (csK K).all fun p => PySem.W.codeHdIn K p.1 p.2 && match g p.2 with
  | some o => He.emptyTab o
  | none => false
structure SaysT (fa : List He.Fa) (fn : List He.DefD) (is : List Str) (ex : PySem.W.Frag → Bool) (vi : List FnI) (h : Heap) (K : PySem.W.Frag) : Prop where
  y : SaysY fa fn is ex vi K
  hd : ∀ p ∈ csK K, PySem.W.codeHdIn K p.1 p.2 = true
  out : ∀ p ∈ csK K, K.lookup p.2 = none
  empty : ∀ p ∈ csK K, h.get? p.2 = some { cls := .none, data := .fields #[] }
abbrev AlZ : Type := AlY × Bool
def obsZG (n : Nat) (fa : List He.Fa) (fn : List He.DefD) (is : List Str) (ex : PySem.W.Frag → Bool) (g : Addr → Option Obj) : AlZ := (obsY fa fn is ex (He.frT g (PySem.cStatics :: He.asD g n)), tabG g (He.frT g (PySem.cStatics :: He.asD g n)))
theorem saysT_of {n : Nat} {fa : List He.Fa} {fn : List He.DefD} {is : List Str} {ex : PySem.W.Frag → Bool} {vi : List FnI} {h : Heap} (e : obsZG n fa fn is ex h.get? = (valY fn vi, true)) : SaysT fa fn is ex vi h (He.frT h.get? (PySem.cStatics :: He.asD h.get? n)) := by
  have e1 := congrArg (fun z : AlZ => z.1) e
  have e2 : tabG h.get? (He.frT h.get? (PySem.cStatics :: He.asD h.get? n)) = true := congrArg (fun z : AlZ => z.2) e
  have key : ∀ p ∈ csK (He.frT h.get? (PySem.cStatics :: He.asD h.get? n)), PySem.W.codeHdIn (He.frT h.get? (PySem.cStatics :: He.asD h.get? n)) p.1 p.2 = true ∧ ∃ o, h.get? p.2 = some o ∧ He.emptyTab o = true := fun p hp => by
    obtain ⟨h3, h4⟩ := He.ba (List.all_eq_true.mp e2 p hp)
    refine ⟨h3, ?_⟩
    split at h4
    · rename_i o q
      exact ⟨o, q, h4⟩
    · cases h4
  refine ⟨⟨congrArg (fun z : AlY => z.1) e1, congrArg (fun z : AlY => z.2.1) e1, congrArg (fun z : AlY => z.2.2) e1⟩, fun p hp => (key p hp).1, fun p hp => ?_, fun p hp => ?_⟩
  · obtain ⟨_, o, q, z⟩ := key p hp
    exact He.frT_none q z
  · obtain ⟨_, o, q, z⟩ := key p hp
    rw [q, He.emptyTab_eq z]
def hookZ (n : Nat) (fa : List He.Fa) (fn : List He.DefD) (is : List Str) (ex : PySem.W.Frag → Bool) (vi : List FnI) : PySem.W.Hook where
  α := AlZ
  obs := fun s => obsZG n fa fn is ex s.heap.get?
  val := fun _ => (valY fn vi, true)
  says := fun _ h => ∃ K : PySem.W.Frag, K.In h ∧ SaysT fa fn is ex vi h K
  of := fun _ _ e => ⟨_, He.frT_in, saysT_of e⟩
  keeps := fun _ _ _ ⟨K, hK, c⟩ k => ⟨K, PySem.W.Frag.In.keeps hK k, c.y, c.hd, c.out, fun p hp => k _ _ (c.empty p hp)⟩
theorem obsZG_eq {n : Nat} {fa : List He.Fa} {fn : List He.DefD} {is : List Str} {ex : PySem.W.Frag → Bool} {vi : List FnI} {g : Addr → Option Obj} {s : Shared} (h : ∀ a, g a = s.heap.get? a) : obsZG n fa fn is ex g = (hookZ n fa fn is ex vi).obs s := by
  have e : g = s.heap.get? := funext h
  rw [e] <;> rfl
theorem SaysT.tabs {fa : List He.Fa} {fn : List He.DefD} {is : List Str} {ex : PySem.W.Frag → Bool} {vi : List FnI} {h : Heap} {K : PySem.W.Frag} (X : K.In h) (c : SaysT fa fn is ex vi h K) : TabsH K h (csK K) :=
  ⟨fun p hp => csK_tabs hp, c.empty, c.out, fun p hp => PySem.W.codeHd_of_K X (c.hd p hp)⟩
theorem SaysT.lam {fa : List He.Fa} {fn : List He.DefD} {is : List Str} {ex : PySem.W.Frag → Bool} {vi : List FnI} {h : Heap} {K : PySem.W.Frag} (c : SaysT fa fn is ex vi h K) : lamB K = true := by
  refine List.all_eq_true.mpr fun p hp => ?_
  obtain ⟨q, hq, e⟩ := List.mem_map.mp (csK_tabs hp)
  rw [← e, c.out q hq]; rfl
structure LamF (K : PySem.W.Frag) (x : Str) (f c P : Addr) : Prop where
  mem : (P, x ++ ".<locals>." ++ "<lambda>") ∈ tabsK K
  cs : (c, P) ∈ csK K
  uniq : ∀ p ∈ tabsK K, p.1 = P → p.2 = x ++ ".<locals>." ++ "<lambda>"
def lamFB (K : PySem.W.Frag) (x : Str) : Bool := (tabsK K).all fun p => decide (p.1 ≠ He.tabOf K (He.codeOf K (x, none))) || decide (p.2 = x ++ ".<locals>." ++ "<lambda>")
theorem lamF_of {K : PySem.W.Frag} {x qual : Str} {st : Stmt} {f : Addr} {fd : FuncData} (F : Fun K x x st f fd) (hf : f = He.ga K x) (h : lamFB K x = true) : ∃ c P, fd.code = .ref c ∧ LamF K x f c P := by
  obtain ⟨⟨oc, od, kV, doc, pm, an, cdv, ct, osl, rfl, lk, hcd⟩, kp⟩ := F
  obtain ⟨c, rfl⟩ := He.codeIn_ref hcd
  have ec : He.codeOf K (x, none) = c := He.codeOf_eq (p := (x, none)) (by show K.lookup (He.ga K x) = _; rw [← hf]; exact lk) rfl
  have hm := He.lookup_mem lk
  refine ⟨c, He.tabOf K c, rfl, List.mem_filterMap.mpr ⟨_, hm, rfl⟩, List.mem_filterMap.mpr ⟨_, hm, rfl⟩, fun p hp e => ?_⟩
  have z := List.all_eq_true.mp h p hp
  rw [ec] at z
  rcases Bool.or_eq_true_iff.mp z with z | z
  · exact absurd e (of_decide_eq_true z)
  · exact of_decide_eq_true z
end DL
set_option Elab.async false
set_option linter.all false
set_option maxRecDepth 100000
set_option maxHeartbeats 4000000
namespace DL
open PySem PySem.Spec PyProof.Rows L2 NdefX
open He (ga ma eqO eqO_ok ba)
structure IsC (K : PySem.W.Frag) (D : Addr) : Prop where
  hc : (PySem.W.clsIn K D).isSome = true
  hg : PySem.W.findIn K (.ref D) "__getattribute__" = some (some (.builtin "BaseException.__getattribute__"))
  hk : PySem.W.findIn K (.ref D) "__getattr__" = some none
  hs : PySem.W.subIn K (.ref D) (.type "BaseException") = some true
  ha : PySem.W.findIn K (.ref D) "__class__" = some (some (.builtin "object.__class__"))
  hn : PySem.W.specialIn K (.builtin "object.__class__") "__get__" = some (some (.builtin "getset_descriptor.__get__"))
  ht : PySem.W.takesIn K (.builtin "object.__class__") = some true
  hm : PySem.W.mroIn K D (.type "object") = some true
def isCB (K : PySem.W.Frag) (D : Addr) : Bool := (PySem.W.clsIn K D).isSome && (eqO (PySem.W.findIn K (.ref D) "__getattribute__") (some (some (.builtin "BaseException.__getattribute__"))) && (eqO (PySem.W.findIn K (.ref D) "__getattr__") (some none) && (decide (PySem.W.subIn K (.ref D) (.type "BaseException") = some true) &&
  (eqO (PySem.W.findIn K (.ref D) "__class__") (some (some (.builtin "object.__class__"))) && (eqO (PySem.W.specialIn K (.builtin "object.__class__") "__get__") (some (some (.builtin "getset_descriptor.__get__"))) && (decide (PySem.W.takesIn K (.builtin "object.__class__") = some true) &&
  decide (PySem.W.mroIn K D (.type "object") = some true)))))))
theorem isCB_ok {K : PySem.W.Frag} {D : Addr} (h : isCB K D = true) : IsC K D := by
  obtain ⟨h1, h⟩ := ba h
  obtain ⟨h2, h⟩ := ba h
  obtain ⟨h3, h⟩ := ba h
  obtain ⟨h4, h⟩ := ba h
  obtain ⟨h5, h⟩ := ba h
  obtain ⟨h6, h⟩ := ba h
  obtain ⟨h7, h8⟩ := ba h
  exact ⟨h1, eqO_ok h2, eqO_ok h3, of_decide_eq_true h4, eqO_ok h5, eqO_ok h6, of_decide_eq_true h7, of_decide_eq_true h8⟩
structure IsOk (K : PySem.W.Frag) (mg : Str → Option Value) (x : Str) (X : Addr) : Prop where
  nm : mg x = some (.ref X)
  ok : ∀ y b C, tcE y x = some b → mg y = some (.ref C) → IsC K C ∧ PySem.W.kitOne K (.ref C) (.ref X) = some b
def isxB (K : PySem.W.Frag) (x : Str) : Bool := eqO (PySem.W.nsIn K mainGlobals x) (some (some (.ref (ga K x)))) && errNames.all fun y => match PySem.W.nsIn K mainGlobals y with
  | some none => true
  | some (some (.ref C)) => isCB K C && decide (PySem.W.kitOne K (.ref C) (.ref (ga K x)) = tcE y x)
  | _ => false
theorem isxB_ok {K : PySem.W.Frag} {h : Heap} {mg : Str → Option Value} {x : Str} (X : K.In h) (G : h.Ns mainGlobals mg) (c : isxB K x = true) : ∃ c, IsOk K mg x c := by
  obtain ⟨c1, c2⟩ := ba c
  refine ⟨ga K x, PySem.W.mg_of X G (eqO_ok c1), fun y b C ht hm => ?_⟩
  have hy : y ∈ errNames := by
    unfold tcE at ht
    split at ht
    · rename_i hc
      exact List.contains_iff_mem.mp hc
    · cases ht
  have q := List.all_eq_true.mp c2 y hy
  split at q
  · rename_i e
    rw [PySem.W.mg_none_of X G e] at hm
    cases hm
  · rename_i C' e
    have e2 := PySem.W.mg_of X G e
    rw [hm] at e2
    cases e2
    obtain ⟨q1, q2⟩ := ba q
    refine ⟨isCB_ok q1, ?_⟩
    rw [of_decide_eq_true q2, ht]
  · cases q
def rIsX (K : PySem.W.Frag) (D a : Addr) (d : Option Addr) : List V → Hp → VK → Prop := fun xs H Q => ∃ cv b, xs = [.ref a, .ref cv] ∧ (∀ dd, d = some dd → ∃ fs, H dd = some (.xd fs)) ∧ PySem.W.kitOne K (.ref D) (.ref cv) = some b ∧ Q (.bl b) H
theorem call_isX {X : Cx} {a D : Addr} {oe : Obj} {d : Option Addr} {pn : List (Addr × Obj)} (C : IsC X.K D) (hz : Zc (.ref D) d oe) (hf : ∃ vs, oe.data = .fields vs) : CallR (X.suite a ((a, oe) :: pn)) (.builtin "isinstance") (rIsX X.K D a d) := by
  intro pins s σ H xs us Q I r h
  obtain ⟨cv, b, rfl, hd, e, q⟩ := h
  cases r with
  | cons rx rr =>
    cases rr with
    | cons rt rr =>
      cases rr
      cases rx
      cases rt
      obtain ⟨hget, _⟩ := I.pin (a, oe) (List.mem_append.mpr (.inl List.mem_cons_self))
      obtain ⟨vs, hv⟩ := hf
      have J : ∃ od, PySem.W.InstAt s.heap a oe D od := by
        cases d with
        | none =>
          obtain ⟨oc, od, oda, osl⟩ := oe
          obtain ⟨h1, h2⟩ := hz
          dsimp only at h1 h2 hv
          subst h1 h2 hv
          exact ⟨none, hget, rfl, rfl, trivial⟩
        | some dd =>
          obtain ⟨fs, hd⟩ := hd dd rfl
          have hx : ObjOk X.prog X.w H s.heap dd (.xd fs) := I.hok dd _ hd
          obtain ⟨mA, hns, _⟩ := hx
          obtain ⟨od, ho, _⟩ := lookIn_ns hns
          exact ⟨some od, hget, hz.1, by unfold PySem.W.notCls; rw [hv] <;> rfl, by rw [hz.2]; exact ho⟩
      obtain ⟨od, J⟩ := J
      exact PySem.W.kia_one (PySem.W.kitx_exc C.hc C.hg C.hk C.hs C.ha C.hn C.ht C.hm) I.kIn J e (fun z => nomatch z) fun tk => ⟨.bl b, H, I.kept (t' := tk) fun _ _ z => z, rfl, q⟩
def dIsE (i : Nat) (a : Addr) (e : Exc) (x : Str) : DE := fun ρ S Q => ρ[i]? = some (some (.ref a)) ∧ ∃ b, tcE e.cls x = some b ∧ Q (.bl b) S
section
variable {X : Cx} {Z : Zb} {n x : Str} {i : Nat} {p p1 p2 pos : Pos} {a c : Addr} {oe : Obj} {cls : Value} {d : Option Addr} {pn : List (Addr × Obj)} {e : Exc}
theorem se_isx (su : SuOk X.K X.mg Z oe cls d e) (T : IsOk X.K X.mg x c) (hgi : Gl X "isinstance") (hmi : X.mg "isinstance" = none) (hg : Gl X x) (hN : X.N[i]? = some n) (hv : Vis X.env.scope n) (hd : (x == ("__debug__" : Str)) = false) (h1 : (n == ("__debug__" : Str)) = false) (h2 : (n == ("__classdict__" : Str)) = false) :
    SE (X.suite a ((a, oe) :: pn)) Z (.Call (.Name "isinstance" p) [.Name n p1, .Name x p2] [] pos) (dIsE i a e x) := by
  have go : ∀ C, cls = .ref C → X.mg e.cls = some (.ref C) → SE (X.suite a ((a, oe) :: pn)) Z (.Call (.Name "isinstance" p) [.Name n p1, .Name x p2] [] pos) (dIsE i a e x) := fun C hc hm => by
    subst hc
    by_cases ht : ∃ b, tcE e.cls x = some b
    · obtain ⟨b, ht⟩ := ht
      obtain ⟨T1, T2⟩ := T.ok _ _ _ ht hm
      refine peI (pe_callB (X := X.suite a ((a, oe) :: pn)) (call_isX T1 su.zc.zc su.fl) hgi hmi (by decide +kernel) (pa_cons (pe_var (X := X.suite a ((a, oe) :: pn)) hN hv h1 h2) (pa_cons (pe_glob (X := X.suite a ((a, oe) :: pn)) (v := .ref c) hg T.nm rfl hd) pa_nil rfl) rfl) (by decide) (by decide) rfl rfl) fun σ H Q ⟨ρ, S, P, r, s, z, ⟨hi, b', hb, h⟩, k⟩ => ?_
      rw [ht] at hb
      cases hb
      obtain ⟨u, hu, ru⟩ := r.get i _ hi
      cases ru
      refine ⟨_, hu, c, b, rfl, fun dd hdd => ?_, T2, k.now s (.bl b) h⟩
      subst hdd
      cases su.rx with
      | own _ hd2 _ _ => exact ⟨_, z.keep _ _ hd2 (su.st.noxd hd2) (fun _ z => by cases z)⟩
    · exact ⟨fun pins s σ H Q I ⟨ρ, S, P, r, s', z, ⟨hi, b, hb, _⟩, k⟩ => absurd ⟨b, hb⟩ ht⟩
  cases hrx : su.rx with
  | own hm _ _ _ => exact go _ rfl hm
  | bare hm _ => exact go _ rfl hm
end
section
variable {X : Cx} {Z : Zb} {x : Str} {ws : List Str} {a : Expr} {ta : DE} {p pos : Pos}
end
end DL
set_option Elab.async false
set_option linter.all false
set_option maxRecDepth 100000
set_option maxHeartbeats 4000000
namespace DL
open PySem PySem.Spec PyProof.Rows L2
section
variable {P : Program} {w : World} {K : PySem.W.Frag} {mg : Str → Option Value} {base : Heap}
theorem callee_ofL {x qual : Str} {st : Stmt} {f : Addr} {fd : FuncData} {N ps : List Str} {k : Nat} {sp : FSp} {t : (Exc → Sto → Prop) → DS} (F : Fun K x qual st f fd) (hm : mg x = some (.ref f)) (S : FnScope N ps (defScope st)) (hb : Binds K fd ps [])
    (len : ∀ ds S P EP, sp ds S P EP → ds.length = ps.length)
    (hbody : ∀ (A : Around) (outer : List Env) (s : Shared) (H : Hp) (E : XK) (Z : Zb) (EP : Exc → Sto → Prop), RoomG k (A.deeper (envOfC qual (defScope st) s.heap.objs.size f fd.code)) →
      L2N.Takes (cxD P w K mg base N qual st f fd.code A outer s H E) (upW K mg Z fun e _ S' => EP e S') → SSs (cxD P w K mg base N qual st f fd.code A outer s H E) Z (defBody st) (t EP))
    (pure : ∀ ds S Q EP, sp ds S Q EP → t EP { nx := fun _ S' => Q .non S', rt := Q } (startD N.length ds) S) : Callee P w K mg base (k + 1) x sp := by
  obtain ⟨⟨oc, od, kV, doc, pm, an, cdv, ct, osl, rfl, lk, hcd⟩, kp⟩ := F
  refine ⟨f, _, ps, hm, kp, hb, fnG_of lk hcd S (fun vs H Q E ⟨ds, S', P', EP, rl, st', h, _, _⟩ => by rw [← rl.length]; exact len _ _ _ _ h) fun A outer s H vs Q E hr ⟨ds, S', P', EP, rl, st', h, kk, kx⟩ => ?_⟩
  have tk : L2N.Takes (cxD P w K mg base N qual st f cdv A outer s H E) (upW K mg ⟨S', H⟩ fun e _ S' => EP e S') :=
    L2N.Takes.imp (L2N.takes_of rfl rfl rfl rfl) fun cls d σ H2 ⟨e, ρ, S2, r2, s2, z2, re, he⟩ => kx e S2 cls d H2 z2 s2 re he
  refine ⟨_, hbody A outer s H E ⟨S', H⟩ EP hr tk, ?_⟩
  refine ⟨startD N.length ds, S', _, rpS_start rl N, st', Tr.refl _ _, pure ds S' P' EP h, ⟨fun ρ' S2 σ' H' t' s' r' h' => kk _ _ _ _ t' s' .non h', kk, fun _ _ _ _ _ _ _ z => z.elim, fun _ _ _ _ _ _ _ z => z.elim⟩⟩
end
theorem lam_fact {K : PySem.W.Frag} {h : Heap} {mg : Str → Option Value} {fal : List He.Fa} {fnl : List He.DefD} (X : K.In h) (G : h.Ns mainGlobals mg) (c : He.SaysD fal fnl K) (i : Nat) {x : Str} (h1 : fal[i]? = some (.glo x)) (hl : lamFB K x = true) {st : Stmt} {f : Addr} {fd : FuncData} (hm : mg x = some (.ref f)) (F : Fun K x x st f fd) :
    ∃ c P, fd.code = .ref c ∧ LamF K x f c P := by
  refine lamF_of (qual := x) F ?_ hl
  have e := He.glo_ok X G (c.fact i h1)
  rw [hm] at e
  exact Value.ref.inj (Option.some.inj e)
end DL
set_option Elab.async false
set_option linter.all false
set_option maxRecDepth 100000
set_option maxHeartbeats 4000000
namespace TY
open PySem DL L2 Ca Cb Cc
open En (e)
instance : Inhabited D := ⟨.non⟩
abbrev Ob : Type := D ⊕ List D
def ob : Rep Ob := ⟨fun S x d => match x with
  | .inl y => d = y
  | .inr xs => (lst (v D)).r S xs d, fun {S S' x d} k h => by
  cases x with
  | inl y => exact h
  | inr xs => exact (lst (v D)).mono k h⟩
def IsV (d : D) : Prop := match d with
  | .non => True
  | .bl _ => True
  | .int _ => True
  | .str _ => True
  | .tup _ => True
  | _ => False
section
variable {α β τ : Type} {R : Rep α} {T : RepL τ} {B O O' : List Addr} {t te ta tb : DE} {v' : DA} {ρ : Nv} {S : Sto} {N : DEnds} {EX : EXn} {E : Exc → Prop}
def IsIn (d : D) : Prop := ∃ i, d = .int i
def toI (d : D) : Int := match d with
  | .int i => i
  | _ => 0
theorem ei_toI {d : D} (h : EI B t ρ S d) (ok : IsIn d) : EI B t ρ S (toI d) := fun S1 k1 Q q => h S1 k1 Q fun d' S2 k2 r => by
  obtain ⟨i, rfl⟩ := ok
  exact q d' S2 k2 r
def mxI : List Int → Int
  | [] => 0
  | [x] => x
  | x :: r => max x (mxI r)
theorem mxI_cons (x y : Int) (r : List Int) : mxI (x :: y :: r) = max x (mxI (y :: r)) := rfl
theorem mxI_le : ∀ {xs : List Int} {x : Int}, x ∈ xs → x ≤ mxI xs
  | [y], x, h => by simp at h; subst h; exact Int.le_refl _
  | y :: z :: r, x, h => by
    rw [mxI_cons]
    rcases List.mem_cons.mp h with rfl | h
    · exact Int.le_max_left _ _
    · exact Int.le_trans (mxI_le h) (Int.le_max_right _ _)
theorem mxI_mem : ∀ {xs : List Int}, xs ≠ [] → mxI xs ∈ xs
  | [y], _ => by simp [mxI]
  | y :: z :: r, _ => by
    rw [mxI_cons]
    have := mxI_mem (xs := z :: r) (by simp)
    rcases Int.le_total y (mxI (z :: r)) with h | h
    · rw [Int.max_eq_right h]; exact List.mem_cons_of_mem _ this
    · rw [Int.max_eq_left h]; simp
theorem isDs_ints (n : Nat) : ∀ xs : List Int, isDs n (xs.map D.int) = true
  | [] => by cases n <;> rfl
  | x :: r => by
    have := isDs_ints n r
    cases n with
    | zero => simpa [isDs, isD] using this
    | succ n => simpa [isDs, isD] using this
theorem pds_ints : ∀ xs : List Int, pds (xs.map D.int) = xs.map PyData.int
  | [] => rfl
  | x :: r => by show pd (.int x) :: pds (r.map D.int) = _; rw [pds_ints r]; rfl
theorem alike_int (xs : List Int) : PySem.W.AlikeAll (pds (xs.map D.int)) := by
  rw [pds_ints]
  refine ⟨fun x hx y hy => ?_, fun x hx => ?_⟩
  · obtain ⟨i, _, rfl⟩ := List.mem_map.mp hx
    obtain ⟨j, _, rfl⟩ := List.mem_map.mp hy
    rfl
  · obtain ⟨i, _, rfl⟩ := List.mem_map.mp hx
    exact fun z => nomatch z
theorem ei_mx {xs : List Int} (h : ESeq (v Int) B O t ρ S xs) (ok : xs ≠ []) : EI B (dCall (dMinD true) (dCons t dNil)) ρ S (mxI xs) := fun S1 k1 Q q => h S1 k1 _ fun d S2 k2 r => by
  show sqD d S2 fun ds _ => ds ≠ [] ∧ isDs 30 ds = true ∧ PySem.W.AlikeAll (pds ds) ∧ ∀ d, minOK true ds d → Q d S2
  refine r.sq fun ds chk a _ => ?_
  rw [all2_v a]
  refine ⟨by simpa using ok, isDs_ints 30 xs, alike_int xs, fun d ⟨hm, hl⟩ => q d S2 k2 ?_⟩
  obtain ⟨i, hi, rfl⟩ := List.mem_map.mp hm
  have h1 := mxI_le hi
  have h2 := hl (.int (mxI xs)) (List.mem_map.mpr ⟨_, mxI_mem ok, rfl⟩)
  have h3 : PySem.W.dataLt (PyData.int i) (PyData.int (mxI xs)) = false := h2
  rw [PySem.W.dataLt_int] at h3
  have h4 := of_decide_eq_false h3
  show D.int i = .int (mxI xs)
  rw [show i = mxI xs by omega]
theorem ew_neD {Wa Wb : (D → Prop) → Prop} (ha : EW (v D) B O ta ρ S Wa) (hb : EW (v D) B O tb ρ S Wb) : EW (v Bool) B O (dOp dNe ta tb) ρ S (fun K => Wa fun x => Wb fun y => (isD 63 x = true ∧ isD 63 y = true) ∧ K (!eqD x y)) :=
  ew_op2 (fun x y K => (isD 63 x = true ∧ isD 63 y = true) ∧ K (!eqD x y)) (fun x y {K K'} k z => ⟨z.1, k _ z.2⟩) ha hb fun x y d d' S Q r r' z => by
    cases r; cases r'
    exact ne_DD z.1.1 z.1.2 (z.2 _ S (St.refl _ _) rfl)
def xD [En α] (r : Except Exc α) : Except Exc D := match r with
  | .ok x => .ok (e x)
  | .error er => .error er
theorem EW.xD [En α] {r : Except Exc α} {ok : Prop} (h : EW (v α) B O t ρ S (fun K => ok ∧ wRes r K E)) (o : ok) : EW (v D) B O t ρ S (fun K => wRes (xD r) K E) :=
  ⟨fun k z => wRes_mono k z, fun S1 k1 Q q => h.run S1 k1 Q ⟨o, by
    cases r with
    | ok x => exact fun d S2 k2 rr => q d S2 k2 rr
    | error er => exact q⟩⟩
theorem EW.x1 [En α] {x : α} {ok : Prop} (h : EW (v α) B O t ρ S (fun K => ok ∧ K x)) (o : ok) : EW (v D) B O t ρ S (fun K => wRes (.ok (e x) : Except Exc D) K E) :=
  ⟨fun k z => wRes_mono k z, fun S1 k1 Q q => h.run S1 k1 Q ⟨o, fun d S2 k2 rr => q d S2 k2 rr⟩⟩
def HAct (res : Except Exc D) (mk : EXn → DE) (f : Addr) (S0 : Sto) : Prop := ∀ (EX : EXn) (ρ : Nv) (S1 : Sto) (Q : DQ), ρ[0]? = some (some (.ref f)) → Ext S0 S1 →
  wRes res (fun v => ∀ S2, Ext S1 S2 → Q v S2) (fun er => ∀ S2, Ext S1 S2 → EX er ρ S2) → mk EX ρ S1 Q
theorem ew_act {res : Except Exc D} {mk : EXn → DE} {f : Addr} {S0 : Sto} (hA : HAct res mk f S0) (hi : ρ[0]? = some (some (.ref f))) (k0 : St [] S0 S) (hE : ∀ er S1, St [] S S1 → E er → EX er ρ S1) : EW (v D) [] O (mk EX) ρ S (fun K => wRes res K E) :=
  ⟨fun k z => wRes_mono k z, fun S1 k1 Q q => hA EX ρ S1 Q hi (St.nil (k0.trans k1)) (wRes_imp (fun v z S2 x => z v S2 (St.of x) rfl) (fun er z S2 x => hE er S2 (k1.trans (St.of x)) z) q)⟩
theorem ew_lam {n : Nat} {dh : (EXn → DE) → (Exc → Sto → Prop) → DS} {Wh : (α → Prop) → (Exc → Prop) → Prop} {res : Except Exc D} {ok okh : Prop} {F : α} {tb : EXn → DE}
    (hp : ∀ (mk : EXn → DE) (f : Addr) (S0 : Sto) (O : List Addr) (Q : DQ) (EP : Exc → Sto → Prop), HAct res mk f S0 → Cx [] O S0 → Wh (fun v => ∀ d S2, Ext S0 S2 → R.r (ct [] O S2) v d → Q d S2) (fun er => ∀ S2, Ext S0 S2 → EP er S2) →
      dh mk EP { nx := fun _ S' => Q .non S', rt := Q } (startD n [.ref f]) S0)
    (hw : okh → ∀ K E, K F → Wh K E) (hc : Cx B O S)
    (hl : ok → ∀ S1, St B S S1 → ∀ (EX' : EXn) (E' : Exc → Prop), (∀ er S2, Ext S1 S2 → E' er → EX' er ρ S2) → EW (v D) [] (O ++ B) (tb EX') ρ S1 (fun K => wRes res K E')) :
    EW R B O (dLam n dh tb EX) ρ S (fun K => (ok ∧ okh) ∧ K F) :=
  ⟨fun k z => ⟨z.1, k _ z.2⟩, fun S1 k1 Q ⟨⟨o, oh⟩, q⟩ => fun f hf => by
    refine hp (dMk f tb ρ) f S1 (O ++ B) Q _ (fun EX2 ρ2 S2 Q2 hi x hr => ⟨hi, ?_⟩) (hc.st k1).app (hw oh _ _ fun d S2 x r => q d S2 (St.of x) (by rw [ct_app] at r; exact r))
    exact (hl o S2 (k1.trans (St.of x)) (fun e _ S' => EX2 e ρ2 S') (fun er => ∀ S3, Ext S2 S3 → EX2 er ρ2 S3) (fun er S3 x3 h => h S3 x3)).run S2 (St.refl _ _) Q2
      (wRes_imp (fun v z d S3 k3 r => by cases r; exact z S3 (St.nil k3)) (fun er z => z) hr)⟩
theorem ei_isE {i : Nat} {a : Addr} {er : Exc} {x : Str} (h : ρ[i]? = some (some (.ref a))) (ok : (tcE er.cls x).isSome = true) : EI B (dIsE i a er x) ρ S ((tcE er.cls x).getD false) := fun S1 k1 Q q => by
  obtain ⟨b, hb⟩ := Option.isSome_iff_exists.mp ok
  refine ⟨h, b, hb, q _ S1 (St.refl _ _) ?_⟩
  show D.bl b = .bl ((tcE er.cls x).getD false)
  rw [hb]; rfl
theorem IsV.kn {d : D} {S : Sto} (ok : IsV d) : Kn S d := by
  cases d <;> first
    | exact trivial
    | exact ok.elim
theorem ei_isInt {d : D} (h : EI B t ρ S d) (ok : IsV d) : EI B (dFn sp_is_integer EX (dCons t dNil)) ρ S (isI d) := fun S1 k1 Q q => h S1 k1 _ fun d' S2 k2 r => by
  cases r
  exact ⟨d, rfl, ok.kn, q _ S2 k2 rfl⟩
end
end TY
set_option Elab.async false
set_option linter.all false
set_option maxRecDepth 100000
set_option maxHeartbeats 4000000
namespace Pa
open PySem DL L2 TY Wa
open Ca (worthZ)
open Cf (box plus)
theorem cmL {i j : Int} (h0 : -1000000000000 ≤ i) (h1 : i ≤ 1000000000000) : CMulA i j := .inl (.inl ⟨by omega, by omega⟩)
theorem cdiv {i j : Int} (h0 : 0 < j) (h1 : j ≤ 1000000000000) : CDivW i j := by
  refine ⟨h0, ?_⟩
  have h : j.natAbs < 2 ^ 64 := by omega
  have := (Nat.log2_lt (n := j.natAbs) (k := 64) (by omega)).mpr h
  omega
theorem line {n : Nat} (h : n ≤ 16777216) : n ≤ sizeLine := Nat.le_trans h (by decide)
theorem lineI {n : Nat} (h : n < 16777216) : n < sizeLine := Nat.lt_of_lt_of_le h (by decide)
theorem rng0 (n : Int) : rngI 0 n = (List.range n.toNat).map fun k : Nat => (k : Int) := by
  unfold rngI
  rw [Int.sub_zero]
  exact List.map_congr_left fun k _ => by omega
theorem mem_rng0 {n k : Int} : k ∈ rngI 0 n ↔ 0 ≤ k ∧ k < n := by
  rw [rng0, List.mem_map]
  constructor
  · rintro ⟨j, hj, rfl⟩
    have := List.mem_range.mp hj
    omega
  · rintro ⟨h0, h1⟩
    exact ⟨k.toNat, List.mem_range.mpr (by omega), by omega⟩
theorem mem_rng {a b k : Int} : k ∈ rngI a b ↔ a ≤ k ∧ k < b := by
  unfold rngI
  rw [List.mem_map]
  constructor
  · rintro ⟨j, hj, rfl⟩
    have := List.mem_range.mp hj
    omega
  · rintro ⟨h0, h1⟩
    exact ⟨(k - a).toNat, List.mem_range.mpr (by omega), by omega⟩
theorem len_rng (a b : Int) : (rngI a b).length = (b - a).toNat := by unfold rngI; rw [List.length_map, List.length_range]
theorem wIf_i {c : Bool} {A B : Prop} (h1 : c = true → A) (h2 : c = false → B) : wIf c A B := by
  unfold wIf
  cases c with
  | true => exact h1 rfl
  | false => exact h2 rfl
theorem sortE_of [En α] [EnO α] {xs : List α} (h : xs.Pairwise fun a b => (!EnO.lt b a) = true) : sortE xs = xs := List.mergeSort_of_pairwise h
theorem sortE_ints {rs : List Int} (h : rs.Pairwise (· ≤ ·)) : sortE rs = rs := sortE_of (h.imp fun {a b} h => by
  show (!decide (b < a)) = true
  rw [decide_eq_false (by omega)]; rfl)
theorem sortE_mem [En α] [EnO α] {xs : List α} {x : α} : x ∈ sortE xs ↔ x ∈ xs := (List.mergeSort_perm _ _).mem_iff
theorem sortE_perm [En α] [EnO α] (xs : List α) : (sortE xs).Perm xs := List.mergeSort_perm _ _
theorem six_some {n d : Nat} {i : Int} (h0 : 0 ≤ i) : HT.sIx n d (some i) = min i.toNat n := by
  unfold HT.sIx
  first | rfl | (simp only []; split <;> omega) | (split <;> omega) | omega
theorem sl_from {α : Type} {xs : List α} {i : Int} (h0 : 0 ≤ i) : sl xs (some i) none = xs.drop i.toNat := by
  unfold sl
  rw [six_some h0]
  show (xs.drop (min i.toNat xs.length)).take (xs.length - min i.toNat xs.length) = _
  by_cases h : i.toNat ≤ xs.length
  · rw [Nat.min_eq_left h]
    exact List.take_of_length_le (by rw [List.length_drop]; omega)
  · rw [Nat.min_eq_right (by omega), List.drop_of_length_le (by omega : xs.length ≤ i.toNat), Nat.sub_self]; rfl
theorem sl_to {α : Type} {xs : List α} {i : Int} (h0 : 0 ≤ i) : sl xs none (some i) = xs.take i.toNat := by
  unfold sl
  rw [six_some h0]
  show (xs.drop 0).take (min i.toNat xs.length - 0) = _
  rw [List.drop_zero, Nat.sub_zero]
  by_cases h : i.toNat ≤ xs.length
  · rw [Nat.min_eq_left h]
  · rw [Nat.min_eq_right (by omega), List.take_of_length_le (Nat.le_refl _), List.take_of_length_le (by omega)]
end Pa
set_option Elab.async false
set_option linter.all false
set_option maxRecDepth 100000
set_option maxHeartbeats 4000000
namespace Gk
open PySem DL L2 TY
open En (e)
open Pa
def d_unit_of_1 (EP : Exc → Sto → Prop) : DS :=
  (dSeq (dWhile (dB (dOp (dCmpI (fun i j => decide (j < i))) (dVar 4) (dC (.int 0)))) (dPar 3 4 (dCons (dVar 4) (dCons (dOp dMod (dVar 3) (dVar 4)) dNil))))
  (dAsg (dVar 3) (gSet 1)))
def d_unit_of_2 (EP : Exc → Sto → Prop) : DS :=
  (dSeq (dFor (iAny (dOp dIx (dVar 0) (dC (.int 0)))) (gSet 2) (dSeq (dPar 3 4 (dCons (dVar 2) (dCons (dVar 1) dNil)))
  (d_unit_of_1 EP)))
  (dRet (dVar 1)))
def d_unit_of (EP : Exc → Sto → Prop) : DS :=
  (dSeq (dAsg (dC (.int 0)) (gSet 1))
  (d_unit_of_2 EP))
def W_unit_of (coinage : ((List Int) × (List Int))) (K : Int → Prop) (E : Exc → Prop) : Prop :=
  wAp (fun found_1 : Int => wFor coinage.1 found_1 (fun (value_3 : Int) (s_2 : Int) (next_10 : (Int) → Prop) => wAp (fun q_12 : Int × Int => wLoop (fun (s_17 : Int × Int) (next_18 : (Int × Int) → Prop) => wIf (decide ((0 : Int) < s_17.2)) (0 < s_17.2 ∧ wAp (fun q_20 : Int × Int => next_18 (q_20.1, q_20.2)) (s_17.2, (s_17.1 % s_17.2))) (wAp (fun found_26 : Int => next_10 found_26) s_17.1)) (q_12.1, q_12.2)) (value_3, s_2)) (fun s_2 : Int => wAp K s_2)) (0 : Int)
def sp_unit_of : FSp := spW (RepL.cons (v ((List Int) × (List Int))) RepL.nil) (v Int) (fun x K E => W_unit_of x.1 K E)
theorem len_unit_of : ∀ ds S P EP, sp_unit_of ds S P EP → ds.length = 1 := by
  rintro _ S P EP ⟨O, x, hc, ⟨_, _, rfl, _, rfl⟩, _⟩
  rfl
theorem pure_unit_of : ∀ ds S Q EP, sp_unit_of ds S Q EP → d_unit_of EP { nx := fun _ S' => Q .non S', rt := Q } (startD 5 ds) S := by
  rintro _ S0 Q EP ⟨O, ⟨coinage, _⟩, hc, ⟨_, _, rfl, rfl, rfl⟩, h⟩
  have hc0 : Cx [] [] S0 := Cx.nil
  have k0 := St.refl [] S0
  have hBR := BR.top hc0
  change W_unit_of coinage _ _ at h
  show (_ : DS) _ [some (e (coinage : ((List Int) × (List Int)))), none, none, none, none] _
  unfold d_unit_of
  unfold W_unit_of at h
  refine seq_i (st_asg (B := []) (ei_c (0 : Int) rfl) h fun found_1 S1 k1 h => ?_)
  have k0 := hBR.st k0 k1
  have hc := hc.st k1
  show (_ : DS) _ [some (e (coinage : ((List Int) × (List Int)))), some (e (found_1 : Int)), none, none, none] _
  unfold d_unit_of_2
  refine seq_i (st_for (B := []) (fun (S2_ : Sto) (s_2 : Int) (ρ_ : Nv) (S_ : Sto) => ∃ (o_one_4 : Option D) (o_other_5 : Option D) (o_value_6 : Option D) , ρ_ = [some (e (coinage : ((List Int) × (List Int)))), some (e (s_2 : Int)), o_value_6, o_one_4, o_other_5] ∧ (St [] S0) S_ ∧ Cx [] (O) S_ ∧ (exR (ct [] (O) S2_)).r (ct [] (O) S_) () .non) (it_any (es_tup (O := O) (ei_fst (ei_var (i := 0) coinage rfl)))) h (fun S1 k1 => ⟨none, none, none, rfl, hBR.st k0 k1, hc.st k1, Ext.refl _⟩) (fun S2_ s_ ρ_ S_ a_ => by obtain ⟨_, _, _, _, _, _, hOwn_⟩ := a_; exact hOwn_) (fun S2_8 k2_ value_3 hx_ d_ s_2 next_ ρ_ S1 Kx_ a_ rx_ h kx_ => ?_) (fun S2_ s_2 ρ_ S1 k2_ h a_ => ?_))
  · obtain ⟨o_one_4, o_other_5, o_value_6, rfl, k0, hc, hE_7⟩ := a_
    cases rx_
    refine eg_set _ _ ?_
    show (_ : DS) _ [some (e (coinage : ((List Int) × (List Int)))), some (e (s_2 : Int)), some (e (value_3 : Int)), o_one_4, o_other_5] _
    refine seq_i (st_par (B := []) (ED.o (O' := O) (ei_var (i := 2) value_3 rfl)) (ED.o (O' := O) (ei_var (i := 1) s_2 rfl)) h fun q_12 d_13 d_14 S1 k1 r_15 r_16 h => ?_)
    cases r_15
    cases r_16
    have hE_7 := Rep.mono _ (ct_st k1) hE_7
    have k0 := hBR.st k0 k1
    have hc := hc.st k1
    show (_ : DS) _ [some (e (coinage : ((List Int) × (List Int)))), some (e (s_2 : Int)), some (e (value_3 : Int)), some (e (q_12.1 : Int)), some (e (q_12.2 : Int))] _
    unfold d_unit_of_1
    skip
    refine seq_i (st_while (fun (s_17 : Int × Int) (ρ_ : Nv) (S_ : Sto) => ρ_ = [some (e (coinage : ((List Int) × (List Int)))), some (e (s_2 : Int)), some (e (value_3 : Int)), some (e (s_17.1 : Int)), some (e (s_17.2 : Int))] ∧ (St [] S0) S_ ∧ Cx [] (O) S_ ∧ (exR (ct [] (O) S2_8)).r (ct [] (O) S_) () .non) ⟨rfl, k0, hc, hE_7⟩ h fun s_17 next_18 ρ_ S1 Kx_ a_ h kxw_19 => ?_)
    obtain ⟨rfl, k0, hc, hE_7⟩ := a_
    refine wh_test (B := []) (eb_b (ei_gt (ei_var (i := 4) s_17.2 rfl) (ei_c (0 : Int) rfl))) h (fun S1 k1 hb_ h => ?_) (fun S1 k1 hb_ h => ?_)
    · have hE_7 := Rep.mono _ (ct_st k1) hE_7
      have k0 := hBR.st k0 k1
      have hc := hc.st k1
      show (_ : DS) _ [some (e (coinage : ((List Int) × (List Int)))), some (e (s_2 : Int)), some (e (value_3 : Int)), some (e (s_17.1 : Int)), some (e (s_17.2 : Int))] _
      obtain ⟨o_25, h⟩ := h
      refine st_par (B := []) (ED.o (O' := O) (ei_var (i := 4) s_17.2 rfl)) (ED.o (O' := O) (ei_mod (ei_var (i := 3) s_17.1 rfl) (ei_var (i := 4) s_17.2 rfl) o_25)) h fun q_20 d_21 d_22 S1 k1 r_23 r_24 h => ?_
      cases r_23
      cases r_24
      have hE_7 := Rep.mono _ (ct_st k1) hE_7
      have k0 := hBR.st k0 k1
      have hc := hc.st k1
      exact kxw_19 (q_20.1, q_20.2) _ _ h ⟨rfl, k0, hc, hE_7⟩
    · have hE_7 := Rep.mono _ (ct_st k1) hE_7
      have k0 := hBR.st k0 k1
      have hc := hc.st k1
      show (_ : DS) _ [some (e (coinage : ((List Int) × (List Int)))), some (e (s_2 : Int)), some (e (value_3 : Int)), some (e (s_17.1 : Int)), some (e (s_17.2 : Int))] _
      refine st_asg (B := []) (ei_var (i := 3) s_17.1 rfl) h fun found_26 S1 k1 h => ?_
      have hE_7 := Rep.mono _ (ct_st k1) hE_7
      have k0 := hBR.st k0 k1
      have hc := hc.st k1
      exact kx_ found_26 _ _ h ⟨some (e (s_17.1 : Int)), some (e (s_17.2 : Int)), some (e (value_3 : Int)), rfl, k0, hc, hE_7⟩
  · obtain ⟨o_one_4, o_other_5, o_value_6, rfl, k0, hc, HOWN_⟩ := a_
    show (_ : DS) _ [some (e (coinage : ((List Int) × (List Int)))), some (e (s_2 : Int)), o_value_6, o_one_4, o_other_5] _
    try (unfold dNext; dsimp only)
    refine (st_ret (B := []) (ei_var (i := 1) s_2 rfl) h fun v d S1 k1 r h => h d S1 (St.nil (k0.trans k1)) r)
def gcdL : List Int → Int → Int
  | [], f => f
  | v :: r, f => gcdL r (Int.gcd v f)
def F_unit_of (coinage : List Int × List Int) : Int := gcdL coinage.1 0
def ok_unit_of (coinage : List Int × List Int) : Prop := ∀ v ∈ coinage.1, 0 ≤ v
theorem gcd_step {a b : Int} (ha : 0 ≤ a) (hb : 0 < b) : Int.gcd b (a % b) = Int.gcd a b := by
  rw [Int.gcd_comm a b]
  show Nat.gcd b.natAbs (a % b).natAbs = Nat.gcd b.natAbs a.natAbs
  obtain ⟨n, rfl⟩ := Int.eq_ofNat_of_zero_le ha
  obtain ⟨m, rfl⟩ := Int.eq_ofNat_of_zero_le (Int.le_of_lt hb)
  have e : ((n : Int) % (m : Int)).natAbs = n % m := by rw [← Int.natCast_emod]; rfl
  rw [e]
  show Nat.gcd m (n % m) = Nat.gcd m n
  rw [Nat.gcd_comm m (n % m)]
  exact (Nat.gcd_rec m n).symm
theorem w_unit_of {coinage : List Int × List Int} (o : ok_unit_of coinage) {K : Int → Prop} {E : Exc → Prop} (h : K (F_unit_of coinage)) : W_unit_of coinage K E := by
  unfold W_unit_of
  simp only [wAp]
  have key : ∀ (vs : List Int) (f : Int), 0 ≤ f → (∀ v ∈ vs, 0 ≤ v) → K (gcdL vs f) → wFor vs f (fun (value_3 : Int) (s_2 : Int) (next_10 : (Int) → Prop) => wLoop (fun (s_16 : Int × Int) (next_17 : (Int × Int) → Prop) => wIf (decide ((0 : Int) < s_16.2)) (0 < s_16.2 ∧ next_17 (s_16.2, (s_16.1 % s_16.2))) (next_10 s_16.1)) (value_3, s_2)) (fun s_2 : Int => K s_2) := by
    intro vs
    induction vs with
    | nil => intro f _ _ k; exact k
    | cons v r ih =>
      intro f hf hv k
      refine ⟨fun m s => m = s.2.toNat ∧ 0 ≤ s.1 ∧ 0 ≤ s.2 ∧ Int.gcd s.1 s.2 = Int.gcd v f, ⟨_, rfl, hv v (by simp), hf, rfl⟩, ?_⟩
      rintro m ⟨a, b⟩ ⟨rfl, h1, h2, h3⟩
      dsimp only at h1 h2 h3 ⊢
      refine wIf_i (fun hc => ?_) fun hc => ?_
      · have hb : 0 < b := of_decide_eq_true hc
        refine ⟨hb, (a % b).toNat, ?_, rfl, h2, Int.emod_nonneg _ (by omega), ?_⟩
        · have := Int.emod_lt_of_pos a hb
          have := Int.emod_nonneg a (show b ≠ 0 by omega)
          omega
        · rw [← h3]; exact gcd_step h1 hb
      · have hb : b = 0 := by have := of_decide_eq_false hc; omega
        subst hb
        have e : a = (Int.gcd v f : Int) := by
          rw [← h3]
          show a = ((Nat.gcd a.natAbs 0 : Nat) : Int)
          rw [Nat.gcd_zero_right]; omega
        rw [e]
        exact ih _ (Int.natCast_nonneg _) (fun w hw => hv w (List.mem_cons_of_mem _ hw)) k
  exact key coinage.1 0 (Int.le_refl _) o h
def d__law_heard (mk : EXn → DE) (EP : Exc → Sto → Prop) : DS :=
  (dTryAs "CoinError" 1 (fun EX => (dRet (dTup (dCons (dC (.str "told")) (dCons (mk EX) dNil))))) (fun e a => (dSeq (dIfS (dTru (dIsE 1 a e "Refused")) (dRet (dTup (dCons (dC (.str "refused")) (dCons (dXf 1 a e "why") dNil)))) dNext)
  (dSeq (dIfS (dTru (dIsE 1 a e "TooMany")) (dRet (dTup (dCons (dC (.str "many")) (dCons (dXf 1 a e "what") (dCons (dXf 1 a e "limit") dNil))))) dNext)
  (dRet (dIf (dTru (dIsE 1 a e "Nothing")) (dTup (dCons (dC (.str "nothing")) dNil)) (dTup (dCons (dC (.str "other")) dNil))))))) (xF EP))
def W__law_heard (res_ : Except Exc D) (K : D → Prop) (E : Exc → Prop) : Prop :=
  wTry (fun er_1 : Exc => ∃ b_ : Bool, tcE er_1.cls "CoinError" = some b_ ∧ (b_ = true → (tcE er_1.cls "Refused").isSome = true ∧ wIf ((tcE er_1.cls "Refused").getD false) ((fldE er_1.cls "why" = true ∧ (er_1.fs.lookup ("why" : Str)).isSome = true) ∧ wAp K (e (((("refused" : Str), (xget er_1 "why")) : (Str × D)) : (Str × D)))) ((tcE er_1.cls "TooMany").isSome = true ∧ wIf ((tcE er_1.cls "TooMany").getD false) ((fldE er_1.cls "what" = true ∧ (er_1.fs.lookup ("what" : Str)).isSome = true) ∧ (fldE er_1.cls "limit" = true ∧ (er_1.fs.lookup ("limit" : Str)).isSome = true) ∧ wAp K (e (((T3.mk ("many" : Str) (xget er_1 "what") (xget er_1 "limit")) : (T3 Str D D)) : (T3 Str D D)))) ((tcE er_1.cls "Nothing").isSome = true ∧ wAp K (if ((tcE er_1.cls "Nothing").getD false) = true then (e (([("nothing" : Str)] : (List Str)) : (List Str))) else (e (([("other" : Str)] : (List Str)) : (List Str))))))) ∧ (b_ = false → E er_1)) (fun E_2 : Exc → Prop => wRes res_ (fun v_10 : D => wAp K (e ((("told" : Str), v_10) : (Str × D)))) E_2)
theorem pure__law_heard {res_ : Except Exc D} {mk : EXn → DE} {f_ : Addr} {S0 : Sto} {O : List Addr} {Q : DQ} {EP : Exc → Sto → Prop} (hA_ : HAct res_ mk f_ S0) (hc : Cx [] O S0) (h : W__law_heard res_ (fun y_ => ∀ d S', Ext S0 S' → ((v D)).r (ct [] O S') y_ d → Q d S') (fun er => ∀ S', Ext S0 S' → EP er S')) : d__law_heard mk EP { nx := fun _ S' => Q .non S', rt := Q } (startD 2 [.ref f_]) S0 := by
  have hc0 : Cx [] [] S0 := Cx.nil
  have k0 := St.refl [] S0
  have hBR := BR.top hc0
  show (_ : DS) _ [some (.ref f_), none] _
  unfold d__law_heard
  unfold W__law_heard at h
  obtain ⟨E_2, eE_2, h⟩ := wTry_x h
  try unfold dNext
  try dsimp only
  refine try_i ?_
  show (_ : DS) _ [some (.ref f_), none] _
  try (unfold dNext; dsimp only)
  refine (sw_ret (B := []) (EW.any (ew_pr2 (EW.pure (ED.o (O' := O) (ei_c ("told" : Str) rfl))) (ew_act (E := E_2) hA_ rfl k0 (fun er_1 S1 k1 h => ?_)))) h fun v d S1 k1 r h => h d S1 (St.nil (k0.trans k1)) r)
  · rw [eE_2] at h
    obtain ⟨bb_, hb_, hy_, hn_⟩ := h
    refine ⟨bb_, hb_, fun e1_ a_ ha_ => ?_, fun e1_ => ?_⟩
    · have h := hy_ e1_
      have k0 := hBR.st k0 k1
      have hc := hc.st k1
      show (_ : DS) _ [some (.ref f_), some (.ref a_)] _
      obtain ⟨o_11, h⟩ := h
      refine seq_i (st_if (B := []) (eb_tru (ei_isE (i := 1) rfl o_11)) h (fun S1 k1 hb_ h => ?_) (fun S1 k1 hb_ h => ?_))
      · have k0 := hBR.st k0 k1
        have hc := hc.st k1
        obtain ⟨o_12, h⟩ := h
        refine (st_ret (B := []) (EI.any (ei_tup (x := ((("refused" : Str), (xget er_1 "why")) : (Str × D))) (el_cons (ei_c ("refused" : Str) rfl) (el_cons (ei_xf (i := 1) rfl o_12) el_nil)) rfl (szl (by decide : 2 ≤ 1000)))) h fun v d S1 k1 r h => h d S1 (St.nil (k0.trans k1)) r)
      · have k0 := hBR.st k0 k1
        have hc := hc.st k1
        show (_ : DS) _ [some (.ref f_), some (.ref a_)] _
        show (_ : DS) _ [some (.ref f_), some (.ref a_)] _
        obtain ⟨o_13, h⟩ := h
        refine seq_i (st_if (B := []) (eb_tru (ei_isE (i := 1) rfl o_13)) h (fun S1 k1 hb_ h => ?_) (fun S1 k1 hb_ h => ?_))
        · have k0 := hBR.st k0 k1
          have hc := hc.st k1
          obtain ⟨o_14, o_15, h⟩ := h
          refine (st_ret (B := []) (EI.any (ei_tup (x := ((T3.mk ("many" : Str) (xget er_1 "what") (xget er_1 "limit")) : (T3 Str D D))) (el_cons (ei_c ("many" : Str) rfl) (el_cons (ei_xf (i := 1) rfl o_14) (el_cons (ei_xf (i := 1) rfl o_15) el_nil))) rfl (szl (by decide : 3 ≤ 1000)))) h fun v d S1 k1 r h => h d S1 (St.nil (k0.trans k1)) r)
        · have k0 := hBR.st k0 k1
          have hc := hc.st k1
          show (_ : DS) _ [some (.ref f_), some (.ref a_)] _
          show (_ : DS) _ [some (.ref f_), some (.ref a_)] _
          obtain ⟨o_17, h⟩ := h
          try (unfold dNext; dsimp only)
          refine (st_ret (B := []) (ed_if (eb_tru (ei_isE (i := 1) rfl o_17)) (fun hx_16 => (EI.any (ei_tup (x := ([("nothing" : Str)] : (List Str))) (el_cons (ei_c ("nothing" : Str) rfl) el_nil) rfl (szl (by decide : 1 ≤ 1000))))) (fun hx_16 => (EI.any (ei_tup (x := ([("other" : Str)] : (List Str))) (el_cons (ei_c ("other" : Str) rfl) el_nil) rfl (szl (by decide : 1 ≤ 1000)))))) h fun v d S1 k1 r h => h d S1 (St.nil (k0.trans k1)) r)
    have h := hn_ e1_
    exact h S1 (St.nil (k0.trans k1))
def F__law_heard (res_ : Except Exc D) : D := match res_ with
  | .ok v => .tup [.str "told", v]
  | .error er => .tup [.str "refused", xget er "why"]
def ok__law_heard (res_ : Except Exc D) : Prop := match res_ with
  | .ok _ => True
  | .error er => er.cls = "Refused" ∧ (er.fs.lookup ("why" : Str)).isSome = true
theorem w__law_heard {res_ : Except Exc D} (o : ok__law_heard res_) {K : D → Prop} {E : Exc → Prop} (h : K (F__law_heard res_)) : W__law_heard res_ K E := by
  cases res_ with
  | ok v => exact h
  | error er =>
    obtain ⟨cls, fs⟩ := er
    obtain ⟨o1, o2⟩ := o
    dsimp only at o1 o2
    subst o1
    have h1 : tcE ("Refused" : Str) "CoinError" = some true := by decide +kernel
    have h2 : (tcE ("Refused" : Str) "Refused").isSome = true := by decide +kernel
    have h3 : fldE ("Refused" : Str) "why" = true := by decide +kernel
    refine ⟨true, h1, fun _ => ⟨h2, ?_⟩, fun z => by cases z⟩
    refine wIf_i (fun _ => ⟨⟨h3, o2⟩, h⟩) fun hc => ?_
    have : (tcE ("Refused" : Str) "Refused").getD false = true := by decide +kernel
    rw [this] at hc; cases hc
end Gk
set_option Elab.async false
set_option linter.all false
set_option maxRecDepth 100000
set_option maxHeartbeats 4000000
namespace DL
open PySem PySem.Spec PyProof.Rows L2 HT
section
variable {prog : Program} {w : World} {A : Around} {E : Value → Shared → Prop} {s : Shared}
end
end DL
set_option Elab.async false
set_option linter.all false
set_option maxRecDepth 100000
set_option maxHeartbeats 4000000
namespace TY
open PySem DL L2 Ca Cb Cc
open En (e)
def rowD (d : D) : List Int := match d with
  | .tup ds => ds.map toI
  | _ => []
section
variable {α β τ : Type} {R : Rep α} {T : RepL τ} {B O O' : List Addr} {t te ta tb tc td : DE} {v' : DA} {ρ : Nv} {S : Sto} {N : DEnds} {EX : EXn} {E : Exc → Prop}
end
section
variable {κ : Type} [En κ] [DecidableEq κ] [Ky κ] [KyL κ] {α β : Type} [En α] {R' : Rep β} [FlatO R'] {B O : List Addr} {t : DE} {ρ : Nv} {S : Sto} {y : β}
end
end TY
set_option Elab.async false
set_option linter.all false
set_option maxRecDepth 100000
set_option maxHeartbeats 4000000
namespace DL
open PySem PySem.Spec PyProof.Rows L2 NdefX
open He (ga ma eqO eqO_ok ba)
section
variable {X : Cx} {pos : Pos}
theorem pmk_own0 {C : Addr} {x : Str} {p : Pos} (q : PySem.W.excIn X.K C He.veBase "ValueError.__new__" = true) (gC : X.mg x = some (.ref C))
    (kC : PySem.W.keepIn X.K (.ref C) = true) (r : Raises X (.ref C)) (hg : Gl X x) (hdb : (x == ("__debug__" : Str)) = false) :
    L2N.PMk X (.Call (.Name x p) [] [] pos) (fun σ H Q => Q (.ref C) none H) := by
  intro pins s σ H Q I h
  refine wpAny_Call_Name_kw (ld_glob I hg gC ?_ hdb)
  refine PySem.W.callWith_K0 I.kIn kC ?_
  show wpAny _ _ (call (.ref C) []) _ _ _
  obtain ⟨hp, g, dr, tk, os⟩ := s
  obtain ⟨bm, N, nm, qn, bs, hdct, sn, sub, ab, col, dd, k0, k1, k2, k3, k5, mN, hC, hN, hni, T⟩ := exc_obj I.kIn q
  refine wpAny_call_exc_subT F.excBase_ValueError T hC hN hni (fun h' e hm => ?_) (by decide)
  exact L2N.mk_of I hm r h (I.hok.gone hm.new)
end
structure Err0 (K : PySem.W.Frag) (mg : Str → Option Value) (x : Str) : Prop where
  ex : ∃ C, mg x = some (.ref C) ∧ PySem.W.excIn K C He.veBase "ValueError.__new__" = true ∧ PySem.W.keepIn K (.ref C) = true ∧ PySem.W.subIn K (.ref C) (.type "BaseException") = some true ∧ PySem.W.typeIn K (.ref C) = some (.type "type")
def err0B (K : PySem.W.Frag) (x : Str) : Bool := eqO (PySem.W.nsIn K mainGlobals x) (some (some (.ref (ga K x)))) && (PySem.W.excIn K (ga K x) He.veBase "ValueError.__new__" && (PySem.W.keepIn K (.ref (ga K x)) && (decide (PySem.W.subIn K (.ref (ga K x)) (.type "BaseException") = some true) && decide (PySem.W.typeIn K (.ref (ga K x)) = some (.type "type")))))
theorem err0B_ok {K : PySem.W.Frag} {h : Heap} {mg : Str → Option Value} {x : Str} (X : K.In h) (G : h.Ns mainGlobals mg) (c : err0B K x = true) : Err0 K mg x := by
  obtain ⟨c1, c⟩ := ba c
  obtain ⟨c2, c⟩ := ba c
  obtain ⟨c3, c⟩ := ba c
  obtain ⟨c4, c5⟩ := ba c
  exact ⟨_, PySem.W.mg_of X G (eqO_ok c1), c2, c3, of_decide_eq_true c4, of_decide_eq_true c5⟩
def dRaise0 (c : Str) (EX : EXn) : DS := fun _ ρ S => EX ⟨c, []⟩ ρ S
theorem ss_rz0 {X : Cx} {Z : Zb} {c : Str} {p pos pos' : Pos} {EX : EXn} (E0 : Err0 X.K X.mg c) (hcl : X.calm = true) (tk : L2N.Takes X (upW X.K X.mg Z EX)) (hg : Gl X c) (hdb : (c == ("__debug__" : Str)) = false) :
    SS X Z (.Raise (some (.Call (.Name c p) [] [] pos)) none pos') (dRaise0 c EX) := by
  obtain ⟨C, hm, h1, h2, h3, h4⟩ := E0.ex
  refine psI (L2N.ps_raise hcl tk (pmk_own0 h1 hm h2 (raises_own h3 h4) hg hdb)) fun D σ H ⟨ρ, S, D', r, s, z, h, kk⟩ => ?_
  exact ⟨⟨c, []⟩, ρ, S, r, s, z, .bare hm rfl, h⟩
open PySem.W (dataLt)
section
variable {X : Cx}
end
end DL
set_option Elab.async false
set_option linter.all false
set_option maxRecDepth 100000
set_option maxHeartbeats 4000000
namespace TY
open PySem DL L2 Ca Cb Cc
open En (e)
open EnD (dep)
theorem wIf_mo {c : Bool} {A B A' B' : Prop} (h1 : A → A') (h2 : B → B') (z : wIf c A B) : wIf c A' B' := by
  cases c with
  | true => exact h1 z
  | false => exact h2 z
section
variable {α β : Type} {R : Rep α} {B O O' : List Addr} {t ta tb : DE} {v' : DA} {ρ : Nv} {S : Sto} {N : DEnds} {EX : EXn} {E : Exc → Prop}
theorem st_raise0 {c : Str} (h : E ⟨c, []⟩) (hE : ∀ er S1, St B S S1 → E er → EX er ρ S1) : dRaise0 c EX N ρ S := hE _ S (St.refl _ _) h
def idxE [DecidableEq α] (xs : List α) (x : α) : Nat := xs.findIdx fun y => decide (y = x)
theorem pds_map [En α] (xs : List α) : pds (xs.map e) = xs.map fun x => pd (e x) := by
  induction xs with
  | nil => rfl
  | cons x r ih => rw [List.map_cons, List.map_cons, ← ih]; rfl
theorem isDs_e63 [En α] [DecidableEq α] [EnD α] (h : dep α ≤ 62) : ∀ xs : List α, isDs 63 (xs.map e) = true
  | [] => rfl
  | x :: r => by
    show (isD 63 (e x) && isDs 63 (r.map e)) = true
    rw [EnD.isd 63 x (by omega), isDs_e63 h r]; rfl
end
end TY
set_option Elab.async false
set_option linter.all false
set_option maxRecDepth 100000
set_option maxHeartbeats 4000000
namespace DL
open PySem PySem.Spec PyProof.Rows L2 RZ
def mgD {κ : Type} [DecidableEq κ] (kvs more : List (κ × D)) : List (κ × D) := more.foldl (fun d p => putD d p.1 p.2) kvs
section
variable {X : Cx} {o e : Expr} {to te : TE} {apos cpos : Pos}
end
section
variable {X : Cx} {Z : Zb} {o e : Expr} {td te : DE} {apos cpos : Pos}
def dUpd (td ti : DE) : DE := fun ρ S Q => td ρ S fun x S1 => ∃ a, x = .ref a ∧ IsDD S1 a ∧ ti ρ S1 fun y S2 => ∃ (b : Addr) (kvs more : List (L2.Key × D)), y = .ref b ∧ a ≠ b ∧ S2 a = some (.dK none kvs) ∧ S2 b = some (.dK none more) ∧ kvs.length + more.length ≤ sizeLine ∧ Q .non (up1 S2 a (.dK none (mgD kvs more)))
end
end DL
set_option Elab.async false
set_option linter.all false
set_option maxRecDepth 100000
set_option maxHeartbeats 4000000
namespace DL
open PySem PySem.Spec PyProof.Rows L2
end DL
set_option Elab.async false
set_option linter.all false
set_option maxRecDepth 100000
set_option maxHeartbeats 4000000
namespace TY
open PySem DL L2 Ca Cb Cc
open En (e)
section
variable {κ : Type} [En κ] [DecidableEq κ] [Ky κ] {α β γ σ τ : Type} {R : Rep α} {R' : Rep β} {B O O' : List Addr} {t ta tb tc td ti tf tk tv te : DE} {ρ : Nv} {S S' S0 : Sto} {x : α} {N : DEnds} {u w : DS}
end
end TY
set_option Elab.async false
set_option linter.all false
set_option maxRecDepth 100000
set_option maxHeartbeats 4000000
namespace DL
open PySem PySem.Spec PyProof.Rows L2
section
variable {K : PySem.W.Frag} {mg : Str → Option Value}
end
end DL
set_option Elab.async false
set_option linter.all false
set_option maxRecDepth 100000
set_option maxHeartbeats 4000000
namespace TY
open PySem DL L2 Ca Cb Cc
open En (e)
section
variable {κ : Type} [En κ] [DecidableEq κ] [Ky κ] {α β γ σ τ : Type} {R : Rep α} {R' : Rep β} {B O O' : List Addr} {t ta tb tc td ti tf tk tv te : DE} {ρ : Nv} {S S' S0 : Sto} {N : DEnds} {u w : DS}
theorem map_some [En α] (xs : List α) : (xs.map some).map (e : Option α → D) = xs.map e := by rw [List.map_map]; rfl
end
end TY
namespace TY
open PySem DL L2
end TY
set_option Elab.async false
set_option linter.all false
set_option maxRecDepth 100000
set_option maxHeartbeats 4000000
namespace TY
open PySem DL L2 Ca Cb Cc
open En (e)
section
variable {α β γ σ τ : Type} {R : Rep α} {R' : Rep β} {B O O' : List Addr} {t ta tb tc td ti tf tk tv te : DE} {ρ : Nv} {S S' S0 : Sto} {N : DEnds} {u w : DS}
end
end TY
set_option Elab.async false
set_option linter.all false
set_option maxRecDepth 100000
set_option maxHeartbeats 4000000
namespace DL
open PySem PySem.Spec PyProof.Rows L2 RZ PpSet
section
variable {X : Cx}
end
section
variable {K : PySem.W.Frag} {mg : Str → Option Value} {w : World} {S S1 : Sto} {H H1 : Hp} {a : Addr} {F F' : Int → Bool} {n n' : Nat}
end
section
variable {X : Cx} {Z : Zb} {ex tg iter : Expr} {ifs : List Expr} {scope : Scope} {own : List (Str × Nat)} {p pos spos : Pos} {wi : DI} {g : DG} {tt : DT} {te : DE} {vs : List Nat}
end
end DL
set_option Elab.async false
set_option linter.all false
set_option maxRecDepth 100000
set_option maxHeartbeats 4000000
namespace TY
open PySem DL L2 Ca Cb Cc
open En (e)
section
variable {α β γ σ τ : Type} {R : Rep α} {R' : Rep β} {B O O' : List Addr} {t ta tb tc td ti tf tk tv te : DE} {ρ : Nv} {S S' S0 : Sto} {N : DEnds} {u w : DS}
end
end TY
set_option Elab.async false
set_option linter.all false
set_option maxRecDepth 100000
set_option maxHeartbeats 4000000
namespace TY
open PySem DL L2 Ca Cb Cc
open En (e)
open EnO (lt so depO)
open EnD (dep)
instance {α β γ : Type} [En α] [DecidableEq α] [EnD α] [EnO α] [En β] [DecidableEq β] [EnD β] [EnO β] [En γ] [DecidableEq γ] [EnD γ] [EnO γ] : EnO (T3 α β γ) := ⟨fun x y => if x.a = y.a then (if x.b = y.b then lt x.c y.c else lt x.b y.b) else lt x.a y.a, max (depO α) (max (depO β) (depO γ)) + 1, fun n x h => by
  cases n with
  | zero => omega
  | succ n =>
    show (isD n (e x.a) && (isD n (e x.b) && (isD n (e x.c) && true))) = true
    rw [EnO.isd n x.a (by omega), EnO.isd n x.b (by omega), EnO.isd n x.c (by omega)]; rfl, fun x y => by
  show PySem.W.dataLt (.tuple [pd (e x.a), pd (e x.b), pd (e x.c)]) (.tuple [pd (e y.a), pd (e y.b), pd (e y.c)]) = _
  have e0 : PyProof.Rows.lexLt PyProof.Rows.itemOrd (PySem.W.keyToksAll []) (PySem.W.keyToksAll []) = false := PyProof.Rows.lex_irrefl _
  rw [PySem.W.dataLt_tuple, PySem.W.dataLt_cons (EnO.al _ _), PySem.W.dataLt_cons (EnO.al _ _), PySem.W.dataLt_cons (EnO.al _ _), e0, lt_eqv, lt_eqv, lt_eqv, EnO.lt_eq, EnO.lt_eq, EnO.lt_eq]
  by_cases h : x.a = y.a
  · rw [decide_eq_true h, if_pos rfl, if_pos h]
    by_cases h2 : x.b = y.b
    · rw [decide_eq_true h2, if_pos rfl, if_pos h2]
      by_cases h3 : x.c = y.c
      · rw [decide_eq_true h3, if_pos rfl, h3, ← EnO.lt_eq, dataLt_irr]
      · rw [decide_eq_false h3, if_neg Bool.false_ne_true]
    · rw [decide_eq_false h2, if_neg Bool.false_ne_true, if_neg h2]
  · rw [decide_eq_false h, if_neg Bool.false_ne_true, if_neg h], fun x y => by
  show (PySem.W.alike (pd (e x.a)) (pd (e y.a)) && (PySem.W.alike (pd (e x.b)) (pd (e y.b)) && (PySem.W.alike (pd (e x.c)) (pd (e y.c)) && PySem.W.alikeAll [] []))) = true
  rw [EnO.al, EnO.al, EnO.al]; rfl, (fun _ h => nomatch h), fun _ => True, fun xs _ => .inl fun d hd => by
  obtain ⟨x, _, rfl⟩ := List.mem_map.mp hd
  exact ⟨_, _, rfl⟩⟩
instance {α β γ : Type} [Inhabited α] [Inhabited β] [Inhabited γ] : Inhabited (T3 α β γ) := ⟨⟨default, default, default⟩⟩
class LO (α : Type) [En α] [EnO α] : Prop where
  tr : ∀ a b c : α, lt b a = false → lt c b = false → lt c a = false
  an : ∀ a b : α, lt a b = false → lt b a = false → a = b
  as : ∀ a b : α, lt a b = true → lt b a = false
instance : LO Int where
  tr a b c h h' := decide_eq_false (by have h := of_decide_eq_false h; have h' := of_decide_eq_false h'; omega)
  an a b h h' := by have h := of_decide_eq_false h; have h' := of_decide_eq_false h'; omega
  as a b h := decide_eq_false (by have h := of_decide_eq_true h; omega)
instance : LO (List Int) where
  tr a b c h h' := decide_eq_false (by
    have h := of_decide_eq_false h; have h' := of_decide_eq_false h'
    exact List.not_lt.mpr (List.le_trans (List.not_lt.mp h) (List.not_lt.mp h')))
  an a b h h' := by
    have h := of_decide_eq_false h; have h' := of_decide_eq_false h'
    exact List.le_antisymm (List.not_lt.mp h') (List.not_lt.mp h)
  as a b h := decide_eq_false (by
    have h := of_decide_eq_true h
    exact List.lt_asymm h)
theorem LO.ir {α : Type} [En α] [EnO α] [LO α] (a : α) : lt a a = false := by
  cases h : lt a a with
  | false => rfl
  | true => rw [LO.as a a h] at h; cases h
instance {α β : Type} [En α] [DecidableEq α] [EnD α] [EnO α] [LO α] [En β] [DecidableEq β] [EnD β] [EnO β] [LO β] : LO (α × β) where
  tr a b c h h' := by
    have h : (if b.1 = a.1 then lt b.2 a.2 else lt b.1 a.1) = false := h
    have h' : (if c.1 = b.1 then lt c.2 b.2 else lt c.1 b.1) = false := h'
    show (if c.1 = a.1 then lt c.2 a.2 else lt c.1 a.1) = false
    have w : lt b.1 a.1 = false := by
      by_cases z : b.1 = a.1
      · rw [z]; exact LO.ir _
      · rwa [if_neg z] at h
    have w' : lt c.1 b.1 = false := by
      by_cases z : c.1 = b.1
      · rw [z]; exact LO.ir _
      · rwa [if_neg z] at h'
    by_cases z : c.1 = a.1
    · rw [if_pos z]
      have z2 : b.1 = a.1 := LO.an _ _ w (by rw [← z]; exact w')
      rw [if_pos z2] at h
      rw [if_pos (z.trans z2.symm)] at h'
      exact LO.tr _ _ _ h h'
    · rw [if_neg z]
      exact LO.tr _ _ _ w w'
  an a b h h' := by
    have h : (if a.1 = b.1 then lt a.2 b.2 else lt a.1 b.1) = false := h
    have h' : (if b.1 = a.1 then lt b.2 a.2 else lt b.1 a.1) = false := h'
    by_cases z : a.1 = b.1
    · rw [if_pos z] at h; rw [if_pos z.symm] at h'
      exact Prod.ext z (LO.an _ _ h h')
    · rw [if_neg z] at h; rw [if_neg (Ne.symm z)] at h'
      exact absurd (LO.an _ _ h h') z
  as a b h := by
    have h : (if a.1 = b.1 then lt a.2 b.2 else lt a.1 b.1) = true := h
    show (if b.1 = a.1 then lt b.2 a.2 else lt b.1 a.1) = false
    by_cases z : a.1 = b.1
    · rw [if_pos z] at h; rw [if_pos z.symm]; exact LO.as _ _ h
    · rw [if_neg z] at h; rw [if_neg (Ne.symm z)]; exact LO.as _ _ h
instance {α β γ : Type} [En α] [DecidableEq α] [EnD α] [EnO α] [LO α] [En β] [DecidableEq β] [EnD β] [EnO β] [LO β] [En γ] [DecidableEq γ] [EnD γ] [EnO γ] [LO γ] : LO (T3 α β γ) where
  tr a b c h h' := LO.tr ((a.a, a.b, a.c) : α × β × γ) (b.a, b.b, b.c) (c.a, c.b, c.c) h h'
  an a b h h' := by
    have := LO.an ((a.a, a.b, a.c) : α × β × γ) (b.a, b.b, b.c) h h'
    cases a; cases b
    cases this; rfl
  as a b h := LO.as ((a.a, a.b, a.c) : α × β × γ) (b.a, b.b, b.c) h
section
variable {α : Type} [En α] [DecidableEq α] [EnD α] [EnO α] [LO α] [Inhabited α]
def mnE : List α → α
  | [] => default
  | [x] => x
  | x :: y :: r => if lt (mnE (y :: r)) x = true then mnE (y :: r) else x
theorem mnE_in : ∀ {xs : List α}, xs ≠ [] → mnE xs ∈ xs
  | [x], _ => by simp [mnE]
  | x :: y :: r, _ => by
    have ih := mnE_in (xs := y :: r) (by simp)
    show (if lt (mnE (y :: r)) x = true then mnE (y :: r) else x) ∈ _
    split
    · exact List.mem_cons_of_mem _ ih
    · simp
theorem mnE_le : ∀ {xs : List α} {z : α}, z ∈ xs → lt z (mnE xs) = false
  | [x], z, h => by
    rw [List.mem_singleton.mp h]; exact LO.ir _
  | x :: y :: r, z, h => by
    show lt z (if lt (mnE (y :: r)) x = true then mnE (y :: r) else x) = false
    by_cases c : lt (mnE (y :: r)) x = true
    · rw [if_pos c]
      rcases List.mem_cons.mp h with rfl | h
      · exact LO.as _ _ c
      · exact mnE_le h
    · rw [if_neg c]
      rcases List.mem_cons.mp h with rfl | h
      · exact LO.ir _
      · exact LO.tr _ _ _ (by simpa using c) (mnE_le h)
theorem isDs_o (n : Nat) (h : depO α ≤ n) : ∀ xs : List α, isDs n (xs.map e) = true
  | [] => by cases n <;> rfl
  | x :: r => by
    show (isD n (e x) && isDs n (r.map e)) = true
    rw [EnO.isd n x h, isDs_o n h r]; rfl
theorem ei_mnE {B O : List Addr} {t : DE} {ρ : Nv} {S : Sto} {xs : List α} (h : ESeq (v α) B O t ρ S xs) (ok : xs ≠ []) (hd : depO α ≤ 30 := by decide) : EI B (dCall (dMinD false) (dCons t dNil)) ρ S (mnE xs) := fun S1 k1 Q q => h S1 k1 _ fun d S2 k2 r => by
  show sqD d S2 fun ds _ => ds ≠ [] ∧ isDs 30 ds = true ∧ PySem.W.AlikeAll (pds ds) ∧ ∀ d, minOK false ds d → Q d S2
  refine r.sq fun ds chk a _ => ?_
  rw [all2_v a]
  refine ⟨by simpa using ok, isDs_o 30 hd xs, ?_, fun d ⟨hm, hl⟩ => q d S2 k2 ?_⟩
  · rw [pds_map]
    refine ⟨fun x hx y hy => ?_, fun x hx => ?_⟩
    · obtain ⟨i, _, rfl⟩ := List.mem_map.mp hx
      obtain ⟨j, _, rfl⟩ := List.mem_map.mp hy
      exact EnO.al i j
    · obtain ⟨i, _, rfl⟩ := List.mem_map.mp hx
      exact EnO.nn i
  · obtain ⟨i, hi, rfl⟩ := List.mem_map.mp hm
    have h2 := hl (e (mnE xs)) (List.mem_map.mpr ⟨_, mnE_in ok, rfl⟩)
    have h3 : PySem.W.dataLt (pd (e (mnE xs))) (pd (e i)) = false := h2
    rw [EnO.lt_eq] at h3
    rw [LO.an _ _ h3 (mnE_le hi)]; rfl
end
end TY
set_option Elab.async false
set_option linter.all false
set_option maxRecDepth 100000
set_option maxHeartbeats 4000000
namespace DL
open PySem PySem.Spec PyProof.Rows L2 RZ
section
variable {X : Cx} {Z : Zb} {tg e : Expr} {te : DE} {p p2 pos pos2 : Pos}
end
end DL
set_option Elab.async false
set_option linter.all false
set_option maxRecDepth 100000
set_option maxHeartbeats 4000000
namespace TY
open PySem DL L2 Ca Cb Cc
open En (e)
section
variable {α : Type} {R : Rep α} {B O : List Addr} {ta : DE} {ρ : Nv} {S : Sto}
end
end TY
set_option Elab.async false
set_option linter.all false
set_option maxRecDepth 100000
set_option maxHeartbeats 4000000
namespace TY
open PySem DL L2 Ca Cb Cc
open En (e)
section
variable {B O : List Addr} {t : DE} {ρ : Nv} {S : Sto} {EX : EXn}
end
end TY
set_option Elab.async false
set_option linter.all false
set_option maxRecDepth 100000
set_option maxHeartbeats 4000000
namespace L2
open PySem PySem.Spec PyProof.Rows
abbrev Cl := Value × Option Nat × (Addr → Value → Option Addr → TS)
section
variable {X : Cx} {body : List Stmt} {h₀ : ExceptHandler} {hds : List ExceptHandler} {l : List Cl} {pos : Pos} {tb : WX → TS} {Wout : WX}
end
end L2
namespace DL
open PySem PySem.Spec PyProof.Rows L2 NdefX
section
variable {X : Cx} {Z : Zb} {x y n : Str} {c c' : Value} {i : Nat} {body suite suite' : List Stmt} {b₀ b₁ : Stmt} {np np' pos pos' pos'' : Pos} {tb : EXn → DS} {ts us : Exc → Addr → DS} {EX : EXn}
end
end DL
set_option Elab.async false
set_option linter.all false
set_option maxRecDepth 100000
set_option maxHeartbeats 4000000
namespace DL
open PySem PySem.Spec PyProof.Rows L2 RZ
open PySem.W (alike alikeAll dataLt dataLe AllAlike Sortable EachIs minD maxD AlikeAll)
section
variable {X : Cx}
end
section
variable {K : PySem.W.Frag} {mg : Str → Option Value}
end
end DL
set_option Elab.async false
set_option linter.all false
set_option maxRecDepth 100000
set_option maxHeartbeats 4000000
namespace TY
open PySem DL L2 Ca Cb Cc
open En (e)
section
variable {ρ : Nv} {S : Sto} {N : DEnds} {EX : EXn}
end
section
variable {α : Type} {B O O' : List Addr} {t : DE} {ρ : Nv} {S : Sto}
end
end TY
set_option Elab.async false
set_option linter.all false
set_option maxRecDepth 100000
set_option maxHeartbeats 4000000
namespace TY
open PySem DL L2 Ca Cb Cc
open En (e)
section
variable {α β γ σ τ : Type} {R : Rep α} {R' : Rep β} {B O O' : List Addr} {t ta tb tc te : DE} {ρ : Nv} {S S' S0 : Sto} {x : α} {N : DEnds} {u w : DS}
end
theorem wJoin_i {σ : Type} {K : σ → Prop} {f : (σ → Prop) → Prop} (x : σ) (hK : K x) (h : ∀ kj : σ → Prop, kj x → f kj) : wJoin K f := h K hK
theorem IsIn.eq {d : D} (h : IsIn d) : (some (e (d : D)) : Option D) = some (e (toI d : Int)) := by
  obtain ⟨i, rfl⟩ := h; rfl
end TY
set_option Elab.async false
set_option linter.all false
set_option maxRecDepth 100000
set_option maxHeartbeats 4000000
namespace DL
open PySem PySem.Spec PyProof.Rows L2
section
variable {X : Cx} {Z : Zb} {K : PySem.W.Frag} {mg : Str → Option Value}
end
end DL
set_option Elab.async false
set_option linter.all false
set_option maxRecDepth 100000
set_option maxHeartbeats 4000000
namespace TY
open PySem DL L2 Ca Cb Cc
open En (e)
abbrev Tr := PyData
instance : Inhabited Tr := ⟨.none⟩
mutual
theorem dd_ext {S S' : Sto} (k : Ext S S') : ∀ {d : D} {p : PyData}, Dd S d p → Dd S' d p
  | _, _, .non => .non
  | _, _, .bl b => .bl b
  | _, _, .int i => .int i
  | _, _, .str x => .str x
  | _, _, .tup h => .tup (dds_ext k h)
  | _, _, .lst l h => .lst (k _ _ l) (dds_ext k h)
theorem dds_ext {S S' : Sto} (k : Ext S S') : ∀ {d : List D} {p : List PyData}, DdL S d p → DdL S' d p
  | _, _, .nil => .nil
  | _, _, .cons h r => .cons (dd_ext k h) (dds_ext k r)
end
def tr : Rep Tr := ⟨fun S x d => Dd S d x, fun k h => dd_ext k h⟩
mutual
def dT : PyData → D
  | .none => .non
  | .bool b => .bl b
  | .int i => .int i
  | .str z => .str z
  | .tuple xs => .tup (dTs xs)
  | .list _ => .non
  | .dict _ => .non
def dTs : List PyData → List D
  | [] => []
  | x :: r => dT x :: dTs r
end
section
variable {α β τ : Type} {R : Rep α} {R' : Rep β} {B O O' : List Addr} {t te ta tb tc : DE} {ρ : Nv} {S : Sto} {N : DEnds} {EX : EXn} {x y : Tr}
end
end TY
set_option Elab.async false
set_option linter.all false
set_option maxRecDepth 100000
set_option maxHeartbeats 4000000
namespace DL
open PySem PySem.Spec PyProof.Rows L2 HotX
section
variable {prog : Program} {w : World} {A : Around} {E : Value → Shared → Prop} {s : Shared}
end
section
variable {X : Cx} {Z : Zb} {a b : Expr} {ta : DA} {p p2 pos pos2 : Pos}
end
section
variable {X : Cx} {Z : Zb} {a b c e o : Expr} {es : List Expr} {pos : Pos} {vs : List Nat}
end
end DL
set_option Elab.async false
set_option linter.all false
set_option maxRecDepth 100000
set_option maxHeartbeats 4000000
namespace L2H
open PySem
theorem RoomH.u64 {k : Nat} {A : Around} (r : RoomH k A) : A.units + 64 < cLine := by have := r.un; omega
end L2H
namespace DL
open PySem PySem.Spec PyProof.Rows L2 HotX
section
variable {X : Cx} {Z : Zb} {e : Expr} {es : List Expr} {t : DA} {x : Str} {p pos : Pos} {k : Nat} {sp : FSp} {EX : EXn}
end
section
variable {P : Program} {w : World} {K : PySem.W.Frag} {mg : Str → Option Value} {base : Heap}
end
end DL
set_option Elab.async false
set_option linter.all false
set_option maxRecDepth 100000
set_option maxHeartbeats 4000000
namespace DL
open PySem PySem.Spec PyProof.Rows L2
section
variable {X : Cx} {Z : Zb} {tg e : Expr} {te : DE}
end
section
variable {X : Cx} {Z : Zb} {o e : Expr} {to te : DE}
end
section
variable {X : Cx} {Z : Zb} {x y n m : Str} {c c' : Value} {i j : Nat} {body suite suite' : List Stmt} {b₀ b₁ : Stmt} {np np' pos pos' pos'' : Pos} {tb : EXn → DS} {ts us : Exc → Addr → DS} {EX : EXn}
end
end DL
set_option Elab.async false
set_option linter.all false
set_option maxRecDepth 100000
set_option maxHeartbeats 4000000
namespace DL
open PySem PySem.Spec PyProof.Rows L2 SX
end DL
set_option Elab.async false
set_option linter.all false
set_option maxRecDepth 100000
set_option maxHeartbeats 4000000
namespace TY
open PySem DL L2 Ca Cb Cc
open En (e)
section
variable {α β γ τ : Type} {R : Rep α} {R' : Rep β} {B O O' : List Addr} {t te ta tb tc : DE} {ρ : Nv} {S : Sto} {N : DEnds} {EX : EXn} {x y : Tr}
end
end TY
set_option Elab.async false
set_option linter.all false
set_option maxRecDepth 100000
set_option maxHeartbeats 4000000
namespace DL
open PySem PySem.Spec PyProof.Rows L2
section
variable {X : Cx}
def rGone (K : PySem.W.Frag) : V → List V → Hp → VK → Prop := fun x xs H Q => ∃ (a : Addr) (us : List V) (y : V) (d : PyData) (ds : List PyData) (j : Nat), x = .ref a ∧ xs = [y] ∧ H a = some (.lst us) ∧ Dp K H (V.ref a) (.list ds) ∧ Dp K H y d ∧
  SeqAt.shaped (.list ds) = true ∧ SeqAt.shaped d = true ∧ SeqAt.dataPlace ds d = some j ∧ Q .non (upd H a (.lst (us.eraseIdx j)))
theorem mt_gone (room : X.A.units + 65 < cLine) : MtM X "list.remove" (rGone X.K) := by
  intro pins s σ H x xs val vals Q inv rx rxs h
  obtain ⟨a, us, y, d, ds, j, rfl, rfl, hH, hl, hy, sl, sd, hp, q⟩ := h
  cases rx
  obtain ⟨u, rfl, ru⟩ := rxs.one
  obtain ⟨zl, its, n, rv, hlen, ho⟩ := inv.lstM hH
  obtain ⟨bs, r1⟩ := Dp.reads inv d y u hy ru
  have cl : PyData.canLayAll0 ds = true := SeqAt.canLay_of_shaped sl
  have rm : X.A.units + 1 + min (PyData.depthAll ds) d.depth < cLine := room_in_shaped sd room
  cases hl with
  | lst hs ha =>
    obtain ⟨its2, rv2, is2, hlen2⟩ := inv.list hs
    have same : its2 = its := by
      obtain ⟨o, n2, e1, e2, e3, e4⟩ := is2
      rw [ho] at e1
      cases e1
      injection e4 with e5 e6
      exact (congrArg Array.toList e5).symm
    subst same
    obtain ⟨as, r2⟩ := Dp.readsAll inv ds _ its2 ha rv2
    have le : its2.toArray.size ≤ sizeLine := by rw [List.size_toArray, ← hlen]; exact zl
    refine SeqAt.remove_list_data is2.isList r2 r1 (PyData.plainAll_of_canLay0 ds cl) (PyData.plain_of_canLay0 d (SeqAt.canLay_of_shaped sd)) rm hp le ?_
    refine ⟨.non, _, inv.lset (its' := its2.eraseIdx j) (t' := s.toks) hH ho ?_ (rv.eraseIdx j) ?_, rfl, q⟩
    · show its2.toArray.eraseIdxIfInBounds j = _
      rw [List.eraseIdxIfInBounds_toArray]
    · exact Nat.le_trans (List.length_eraseIdx_le ..) zl
end
def dRemove : DM := fun x xs S Q => match x, xs with
  | .ref a, [y] => ∃ es ds d j, S a = some (.lst es) ∧ DdL S es ds ∧ Dd S y d ∧ SeqAt.shaped (.list ds) = true ∧ SeqAt.shaped d = true ∧ SeqAt.dataPlace ds d = some j ∧ Q .non (up1 S a (.lst (es.eraseIdx j)))
  | _, _ => False
theorem remove_ok {K : PySem.W.Frag} {mg : Str → Option Value} : OpM K mg (rGone K) dRemove := by
  intro S H x xs v vs P Q s rx rxs h k
  unfold dRemove at h
  split at h
  · obtain ⟨es, ds, d, j, ha, h2, h3, h4, h5, h6, q⟩ := h
    cases rx
    obtain ⟨w, rfl, ry⟩ := rxs.o1
    obtain ⟨us, e1, rl⟩ := s.lst ha
    refine ⟨_, us, w, d, ds, j, rfl, rfl, e1, .lst ?_ (h2.dp s rl), h3.dp s ry, h4, h5, h6, k _ _ _ _ (Tr.wrote ha) (s.wrote ha (.lst ?_)) .non q⟩
    · exact .inl (.inl e1)
    · exact rl.eraseIdx j
  · exact h.elim
end DL
set_option Elab.async false
set_option linter.all false
set_option maxRecDepth 100000
set_option maxHeartbeats 4000000
namespace TY
open PySem DL L2 Ca Cb Cc
open En (e)
open EnD (dep)
def goneE {α : Type} [DecidableEq α] (xs : List α) (x : α) : List α := xs.eraseIdx (idxE xs x)
section
variable {α β τ : Type} {R : Rep α} {B O O' : List Addr} {t te ta tb : DE} {ρ : Nv} {S : Sto} {N : DEnds} {EX : EXn}
theorem map_eraseIdx {α β : Type} (f : α → β) : ∀ (xs : List α) (j : Nat), (xs.map f).eraseIdx j = (xs.eraseIdx j).map f
  | [], j => by simp
  | a :: r, 0 => by simp
  | a :: r, j + 1 => by
    have ih := map_eraseIdx f r j
    simp [ih]
theorem place_of [En α] [DecidableEq α] [EnD α] {xs : List α} {x : α} (ok : x ∈ xs) : SeqAt.dataPlace (pds (xs.map e)) (pd (e x)) = some (idxE xs x) := by
  unfold SeqAt.dataPlace
  rw [pds_map, List.findIdx?_map, show ((fun y => PyData.eqv y (pd (e x))) ∘ fun y : α => pd (e y)) = fun y => decide (y = x) from funext fun y => EnD.eqd y x]
  unfold idxE
  rw [List.findIdx?_eq_some_iff_findIdx_eq]
  exact ⟨List.findIdx_lt_length_of_exists ⟨x, ok, decide_eq_true rfl⟩, rfl⟩
theorem st_remove [En α] [DecidableEq α] [EnD α] {i : Nat} {p : Addr} {xs : List α} {x : α} {K : List α → Prop} (hi : ρ[i]? = some (some (.ref p))) (hp : (lst (v α)).r (ct B O S) xs (.ref p)) (E : EI B te ρ S x) (ok : x ∈ xs) (h : wAp K (goneE xs x))
    (k : ∀ w S1 c, St B S S1 → (lst (v α)).r (ct B O (up1 S1 p c)) w (.ref p) → K w → N.nx ρ (up1 S1 p c)) (hd : dep α ≤ 62 := by decide) : dDrop (dBM "list" dRemove (dVar i) (dCons te dNil)) N ρ S := by
  obtain ⟨q, ds, eq, hq, m, kb, a⟩ := lst_at hp
  cases eq
  cases all2_v a
  refine ⟨_, hi, ⟨rfl, _, hq⟩, E S (St.refl _ _) _ fun d S1 k1 r => ?_⟩
  cases r
  refine ⟨xs.map e, pds (xs.map e), pd (e x), idxE xs x, k1.keep _ _ kb hq, dds_pds S1 63 _ (isDs_e63 hd xs), dd_pd S1 63 _ (EnD.isd 63 x (by omega)), shp_pdl (isDs_e63 hd xs), shp_pd (EnD.isd 63 x (by omega)), place_of ok, ?_⟩
  refine k _ S1 _ k1 (lst_put (xs := goneE xs x) (ds := (goneE xs x).map e) m kb (all2_mk _)) h |> fun z => ?_
  rw [map_eraseIdx]
  exact z
theorem st_parNN {R' : Rep β} {i j : Nat} {x : List α} {y : β} {K : List α × β → Prop} (hc : Cx B O S) (Ea : EN (lst R) B O ta ρ S x) (Eb : ∀ p S1, Cx B (p :: O) S1 → EN R' B (p :: O) tb ρ S1 y) (h : wAp K (x, y))
    (k : ∀ w p d' S1 S2, St B S S1 → (lst R).r (ct B O S1) w.1 (.ref p) → S p = none → St B S1 S2 → R'.r (ct B (p :: O) S2) w.2 d' → Fr S1 d' → K w → N.nx ((ρ.set i (some (.ref p))).set j (some d')) S2) :
    dPar i j (dCons ta (dCons tb dNil)) N ρ S :=
  Ea S (St.refl _ _) _ fun d S1 k1 r ⟨p, ed, n⟩ => by
    subst ed
    exact Eb p S1 (Cx.cons hc k1 n (lst_ne r)) S1 (St.refl _ _) _ fun d' S2 k2 r' f => k (x, y) p d' S1 S2 k1 r n k2 r' f h
theorem ei_tget {xs : List (Option Int)} (h : EI B t ρ S xs) (ok : ∀ x ∈ xs, x.isSome = true) : EI B t ρ S (xs.map fun x => x.getD default) := fun S1 k1 Q q => h S1 k1 Q fun d S2 k2 r => q d S2 k2 (by
  cases r
  show D.tup (xs.map e) = D.tup ((xs.map fun x => x.getD default).map e)
  rw [List.map_map]
  refine congrArg D.tup (List.map_congr_left fun x hx => ?_)
  cases x with
  | none => exact absurd (ok _ hx) (by simp)
  | some i => rfl)
end
end TY
set_option Elab.async false
set_option linter.all false
set_option maxRecDepth 100000
set_option maxHeartbeats 4000000
namespace Pw
open PySem DL L2 TY Pa
open En (e)
abbrev P2 := Int × Int
inductive Wk (steps : List P2) : P2 → Prop
  | nil : Wk steps (0, 0)
  | step {p s : P2} : Wk steps p → s ∈ steps → Wk steps (p.1 + s.2, p.2 + s.1)
def leP (p q : P2) : Prop := p.1 < q.1 ∨ (p.1 = q.1 ∧ p.2 ≤ q.2)
theorem leP.rfl' (p : P2) : leP p p := .inr ⟨rfl, Int.le_refl _⟩
theorem leP.trans {p q r : P2} (h : leP p q) (k : leP q r) : leP p r := by unfold leP at *; omega
theorem leP.anti {p q : P2} (h : leP p q) (k : leP q p) : p = q := by
  unfold leP at *
  exact Prod.ext (by omega) (by omega)
theorem leP.mono {p q : P2} (h : leP p q) (w a : Int) : leP (p.1 + w, p.2 + a) (q.1 + w, q.2 + a) := by unfold leP at *; simp only; omega
theorem leP.up (p : P2) {w a : Int} (hw : 0 ≤ w) (ha : 0 < a) : leP p (p.1 + w, p.2 + a) := by unfold leP; simp only; omega
structure IsL (steps : List P2) (m r : Int) (p : P2) : Prop where
  wk : Wk steps p
  md : p.2 % m = r
  le : ∀ q, Wk steps q → q.2 % m = r → leP p q
theorem IsL.uniq {steps : List P2} {m r : Int} {p q : P2} (h : IsL steps m r p) (k : IsL steps m r q) : p = q := (h.le q k.wk k.md).anti (k.le p h.wk h.md)
open Classical in
noncomputable def bestP (steps : List P2) (m r : Int) : Option P2 := if h : ∃ p, IsL steps m r p then some h.choose else none
theorem best_some {steps : List P2} {m r : Int} {p : P2} (h : IsL steps m r p) : bestP steps m r = some p := by
  unfold bestP
  have hx : ∃ p, IsL steps m r p := ⟨p, h⟩
  rw [dif_pos hx]
  exact congrArg some (hx.choose_spec.uniq h)
theorem best_none {steps : List P2} {m r : Int} (h : ∀ q, Wk steps q → q.2 % m ≠ r) : bestP steps m r = none := by
  unfold bestP
  exact dif_neg fun ⟨p, hp⟩ => h p hp.wk hp.md
theorem best_is {steps : List P2} {m r : Int} {p : P2} (h : bestP steps m r = some p) : IsL steps m r p := by
  unfold bestP at h
  split at h
  · rename_i hx
    cases h
    exact hx.choose_spec
  · cases h
structure Inv (steps : List P2) (m : Int) (found : List (Option P2)) (line : List (P2 × Int)) : Prop where
  len : (found.length : Int) = m
  a : ∀ (r : Nat) p, found[r]? = some (some p) → IsL steps m r p
  b : ∀ q ∈ line, Wk steps q.1 ∧ q.1.2 % m = q.2
  c : ∀ (r : Nat) p, found[r]? = some (some p) → ∀ s ∈ steps, (∃ p', found[((r + s.1) % m).toNat]? = some (some p')) ∨ ∃ q ∈ line, q.2 = (r + s.1) % m ∧ leP q.1 (p.1 + s.2, p.2 + s.1)
  d : (∃ p, found[0]? = some (some p)) ∨ ((0, 0), 0) ∈ line
section
variable {steps : List P2} {m : Int} {found : List (Option P2)} {line : List (P2 × Int)}
theorem Inv.some_le (I : Inv steps m found line) (hm : 0 < m) (hs : ∀ s ∈ steps, 0 ≤ s.2 ∧ 0 < s.1) {p : P2} (h : Wk steps p) : (∃ p', found[(p.2 % m).toNat]? = some (some p')) ∨ ∃ q ∈ line, leP q.1 p := by
  induction h with
  | nil =>
    rcases I.d with ⟨p, h⟩ | h
    · exact .inl ⟨p, by rw [show ((0, 0) : P2).2 % m = 0 from Int.zero_emod m]; exact h⟩
    · exact .inr ⟨_, h, leP.rfl' _⟩
  | step hp hsm ih =>
    rename_i p s
    obtain ⟨h1, h2⟩ := hs s hsm
    rcases ih with ⟨p', h⟩ | ⟨q, hq, h⟩
    · have hr : 0 ≤ p.2 % m := Int.emod_nonneg _ (by omega)
      have hL := I.a _ _ h
      rw [Int.toNat_of_nonneg hr] at hL
      have h3 := hL.le p hp rfl
      have e1 : ((((p.2 % m).toNat : Nat) : Int) + s.1) % m = (p.2 + s.1) % m := by rw [Int.toNat_of_nonneg hr, Int.emod_add_emod]
      rcases I.c _ _ h s hsm with ⟨p2, h4⟩ | ⟨q, hq, h4, h5⟩
      · exact .inl ⟨p2, by rw [e1] at h4; exact h4⟩
      · exact .inr ⟨q, hq, h5.trans (h3.mono _ _)⟩
    · exact .inr ⟨q, hq, h.trans (leP.up p h1 h2)⟩
theorem mn_leP {xs : List (P2 × Int)} {z : P2 × Int} (h : z ∈ xs) : leP (mnE xs).1 z.1 := by
  have h1 := mnE_le h
  generalize mnE xs = y at h1
  obtain ⟨⟨a, b⟩, c⟩ := y
  obtain ⟨⟨a', b'⟩, c'⟩ := z
  have h1 : (if ((a', b') : P2) = (a, b) then decide (c' < c) else (if a' = a then decide (b' < b) else decide (a' < a))) = false := h1
  show a < a' ∨ (a = a' ∧ b ≤ b')
  by_cases e1 : ((a', b') : P2) = (a, b)
  · cases e1
    omega
  · rw [if_neg e1] at h1
    by_cases e2 : a' = a
    · rw [if_pos e2, decide_eq_false_iff_not] at h1
      omega
    · rw [if_neg e2, decide_eq_false_iff_not] at h1
      omega
theorem mem_gone {α : Type} [DecidableEq α] {xs : List α} {x y : α} (h : y ∈ xs) (hne : y ≠ x) : y ∈ goneE xs x := by
  unfold goneE idxE
  induction xs with
  | nil => cases h
  | cons z r ih =>
    rw [List.findIdx_cons]
    by_cases c : z = x
    · rw [decide_eq_true c]
      show y ∈ r
      rcases List.mem_cons.mp h with e1 | h
      · exact absurd (e1.trans c) hne
      · exact h
    · rw [decide_eq_false c]
      show y ∈ z :: r.eraseIdx _
      rcases List.mem_cons.mp h with e1 | h
      · exact e1 ▸ List.mem_cons_self ..
      · exact List.mem_cons_of_mem _ (ih h)
theorem gone_sub {α : Type} [DecidableEq α] {xs : List α} {x y : α} (h : y ∈ goneE xs x) : y ∈ xs := List.mem_of_mem_eraseIdx h
theorem gone_len {α : Type} [DecidableEq α] {xs : List α} {x : α} (h : x ∈ xs) : (goneE xs x).length + 1 = xs.length := by
  unfold goneE
  have hj : idxE xs x < xs.length := List.findIdx_lt_length_of_exists ⟨x, h, decide_eq_true rfl⟩
  rw [List.length_eraseIdx_of_lt hj]; omega
theorem Inv.drop (I : Inv steps m found line) {here : P2 × Int} (hf : ∃ p, found[here.2.toNat]? = some (some p)) : Inv steps m found (goneE line here) := by
  refine ⟨I.len, I.a, fun q hq => I.b q (gone_sub hq), fun r p h s hs => ?_, ?_⟩
  · rcases I.c r p h s hs with h1 | ⟨q, hq, h2, h3⟩
    · exact .inl h1
    · by_cases c : q = here
      · subst c
        rw [← h2]; exact .inl hf
      · exact .inr ⟨q, mem_gone hq c, h2, h3⟩
  · rcases I.d with h1 | h1
    · exact .inl h1
    · by_cases c : (((0, 0), 0) : P2 × Int) = here
      · subst c; exact .inl hf
      · exact .inr (mem_gone h1 c)
def pushes (steps : List P2) (m : Int) (found : List (Option P2)) (here : P2 × Int) : List (P2 × Int) :=
  steps.filterMap fun s => if (gI found ((here.2 + s.1) % m)).isNone = true then some ((here.1.1 + s.2, here.1.2 + s.1), (here.2 + s.1) % m) else none
theorem gI_some {α : Type} {xs : List (Option α)} {k : Int} (h : 0 ≤ k ∧ k < xs.length) : (gI xs k).isNone = true ∨ ∃ p, xs[k.toNat]? = some (some p) := by
  have := gI_at h
  cases c : gI xs k with
  | none => exact .inl rfl
  | some p => rw [c] at this; exact .inr ⟨p, this⟩
theorem Inv.settle (I : Inv steps m found line) (hm : 0 < m) (hs : ∀ s ∈ steps, 0 ≤ s.2 ∧ 0 < s.1) (hne : line ≠ []) (hf : (gI found (mnE line).2).isNone = true) :
    Inv steps m (found.set (mnE line).2.toNat (some (mnE line).1)) (goneE line (mnE line) ++ pushes steps m (found.set (mnE line).2.toNat (some (mnE line).1)) (mnE line)) := by
  have hin := mnE_in hne
  generalize hh : mnE line = here at *
  obtain ⟨hw, hmd⟩ := I.b here hin
  have hr0 : 0 ≤ here.2 := by rw [← hmd]; exact Int.emod_nonneg _ (by omega)
  have hr1 : here.2 < m := by rw [← hmd]; exact Int.emod_lt_of_pos _ hm
  have hlt : here.2.toNat < found.length := by have := I.len; omega
  have hnone : found[here.2.toNat]? = some none := by
    have h1 := gI_at (xs := found) (k := here.2) ⟨hr0, by have := I.len; omega⟩
    rw [h1]
    exact congrArg some (Option.isNone_iff_eq_none.mp hf)
  have hL : IsL steps m here.2 here.1 := ⟨hw, hmd, fun q hq hqm => by
    rcases I.some_le hm hs hq with ⟨p', h⟩ | ⟨z, hz, h⟩
    · rw [hqm, hnone] at h; cases h
    · have h1 := mn_leP hz
      rw [hh] at h1
      exact h1.trans h⟩
  have hself : (found.set here.2.toNat (some here.1))[here.2.toNat]? = some (some here.1) := by rw [List.getElem?_set_self hlt]
  have hset : ∀ (r : Nat) p, (found.set here.2.toNat (some here.1))[r]? = some (some p) → (r = here.2.toNat ∧ p = here.1) ∨ (r ≠ here.2.toNat ∧ found[r]? = some (some p)) := fun r p h => by
    by_cases c : r = here.2.toNat
    · subst c
      rw [hself] at h
      cases h
      exact .inl ⟨rfl, rfl⟩
    · rw [List.getElem?_set_ne (Ne.symm c)] at h
      exact .inr ⟨c, h⟩
  have hup : ∀ (r : Nat) p, found[r]? = some (some p) → ∃ p', (found.set here.2.toNat (some here.1))[r]? = some (some p') := fun r p h => by
    by_cases c : r = here.2.toNat
    · subst c; exact ⟨_, hself⟩
    · exact ⟨p, by rw [List.getElem?_set_ne (Ne.symm c)]; exact h⟩
  refine ⟨by rw [List.length_set]; exact I.len, fun r p h => ?_, fun q hq => ?_, fun r p h s hsm => ?_, ?_⟩
  · rcases hset r p h with ⟨rfl, rfl⟩ | ⟨_, h⟩
    · rw [Int.toNat_of_nonneg hr0]; exact hL
    · exact I.a r p h
  · rcases List.mem_append.mp hq with hq | hq
    · exact I.b q (gone_sub hq)
    · obtain ⟨s, hsm, h⟩ := List.mem_filterMap.mp hq
      split at h
      · cases h
        refine ⟨.step hw hsm, ?_⟩
        show (here.1.2 + s.1) % m = (here.2 + s.1) % m
        rw [← hmd, Int.emod_add_emod]
      · cases h
  · rcases hset r p h with ⟨rfl, rfl⟩ | ⟨hne', h⟩
    · rw [Int.toNat_of_nonneg hr0]
      have hb : 0 ≤ (here.2 + s.1) % m ∧ (here.2 + s.1) % m < ((found.set here.2.toNat (some here.1)).length : Int) := by
        rw [List.length_set, I.len]; exact ⟨Int.emod_nonneg _ (by omega), Int.emod_lt_of_pos _ hm⟩
      rcases gI_some hb with h1 | h1
      · refine .inr ⟨((here.1.1 + s.2, here.1.2 + s.1), (here.2 + s.1) % m), List.mem_append_right _ (List.mem_filterMap.mpr ⟨s, hsm, if_pos h1⟩), rfl, leP.rfl' _⟩
      · exact .inl h1
    · rcases I.c r p h s hsm with ⟨p', h1⟩ | ⟨q, hq, h2, h3⟩
      · exact .inl (hup _ _ h1)
      · by_cases c : q = here
        · subst c
          rw [← h2]; exact .inl ⟨_, hself⟩
        · exact .inr ⟨q, List.mem_append_left _ (mem_gone hq c), h2, h3⟩
  · rcases I.d with ⟨p, h1⟩ | h1
    · exact .inl (hup _ _ h1)
    · by_cases c : (((0, 0), 0) : P2 × Int) = here
      · subst c; exact .inl ⟨_, hself⟩
      · exact .inr (List.mem_append_left _ (mem_gone h1 c))
def uns (found : List (Option P2)) : Nat := found.countP fun x => x.isNone
theorem uns_set : ∀ (l : List (Option P2)) (i : Nat) (p : P2), l[i]? = some none → uns (l.set i (some p)) + 1 = uns l
  | [], i, p, h => by simp at h
  | x :: r, 0, p, h => by
    simp at h; subst h
    simp [uns]
  | x :: r, i + 1, p, h => by
    have ih := uns_set r i p (by simpa using h)
    unfold uns at *
    rw [List.set_cons_succ, List.countP_cons, List.countP_cons]; omega
theorem uns_le (l : List (Option P2)) : uns l ≤ l.length := List.countP_le_length
theorem Inv.start (hm : 0 < m) : Inv steps m (List.replicate m.toNat none) [((0, 0), 0)] where
  len := by rw [List.length_replicate]; omega
  a := fun r p h => by
    rw [List.getElem?_replicate] at h
    split at h <;> simp at h
  b := fun q hq => by
    rw [List.mem_singleton] at hq; subst hq
    exact ⟨.nil, Int.zero_emod m⟩
  c := fun r p h => by
    rw [List.getElem?_replicate] at h
    split at h <;> simp at h
  d := .inr (List.mem_singleton.mpr rfl)
theorem Inv.fin (I : Inv steps m found []) (hm : 0 < m) (hs : ∀ s ∈ steps, 0 ≤ s.2 ∧ 0 < s.1) : found = (List.range m.toNat).map fun r : Nat => bestP steps m (r : Int) := by
  refine List.ext_getElem (by have := I.len; rw [List.length_map, List.length_range]; omega) fun r h1 h2 => ?_
  rw [List.getElem_map, List.getElem_range]
  cases c : found[r] with
  | some p => exact (best_some (I.a r p (by rw [List.getElem?_eq_getElem h1, c]))).symm
  | none =>
    refine (best_none fun q hq hqm => ?_).symm
    rcases I.some_le hm hs hq with ⟨p', h⟩ | ⟨z, hz, _⟩
    · rw [hqm, Int.toNat_natCast, List.getElem?_eq_getElem h1, c] at h
      cases h
    · cases hz
end
end Pw
set_option Elab.async false
set_option linter.all false
set_option maxRecDepth 100000
set_option maxHeartbeats 4000000
namespace Px
open PySem DL L2 TY Pa Pw
open En (e)
inductive Pay (vals : List Int) : Int → Prop
  | zero : Pay vals 0
  | step {a v : Int} : Pay vals a → v ∈ vals → Pay vals (a + v)
theorem Pay.add {vals : List Int} {a b : Int} (h : Pay vals a) (k : Pay vals b) : Pay vals (a + b) := by
  induction k with
  | zero => rw [Int.add_zero]; exact h
  | step _ hv ih => rw [← Int.add_assoc]; exact .step ih hv
theorem Pay.nonneg {vals : List Int} (hp : ∀ v ∈ vals, 0 < v) {a : Int} (h : Pay vals a) : 0 ≤ a := by
  induction h with
  | zero => exact Int.le_refl _
  | step _ hv ih => have := hp _ hv; omega
theorem Pay.sub {vals vals' : List Int} (hs : ∀ v ∈ vals, v ∈ vals') {a : Int} (h : Pay vals a) : Pay vals' a := by
  induction h with
  | zero => exact .zero
  | step _ hv ih => exact .step ih (hs _ hv)
theorem Pay.times {vals : List Int} {v : Int} (hv : v ∈ vals) : ∀ k : Nat, Pay vals ((k : Int) * v)
  | 0 => by rw [show ((0 : Nat) : Int) * v = 0 by simp]; exact .zero
  | k + 1 => by
    have := Pay.step (Pay.times hv k) hv
    rw [show ((k + 1 : Nat) : Int) * v = (k : Int) * v + v by rw [Int.natCast_add, Int.add_mul]; simp]
    exact this
theorem pay_last {vals : List Int} {a : Int} (h : Pay vals a) : a = 0 ∨ ∃ v ∈ vals, Pay vals (a - v) := by
  cases h with
  | zero => exact .inl rfl
  | step h hv => exact .inr ⟨_, hv, by rw [Int.add_sub_cancel]; exact h⟩
def stepsOf (vs : List Int) : List P2 := vs.map fun v => (v, v)
theorem wk_pay {vs : List Int} {p : P2} (h : Wk (stepsOf vs) p) : p.1 = p.2 ∧ Pay vs p.2 := by
  induction h with
  | nil => exact ⟨rfl, .zero⟩
  | step _ hs ih =>
    obtain ⟨v, hv, rfl⟩ := List.mem_map.mp hs
    exact ⟨by show _ + v = _ + v; rw [ih.1], .step ih.2 hv⟩
theorem pay_wk {vs : List Int} {a : Int} (h : Pay vs a) : Wk (stepsOf vs) (a, a) := by
  induction h with
  | zero => exact .nil
  | step _ hv ih => exact Wk.step (s := (_, _)) ih (List.mem_map.mpr ⟨_, hv, rfl⟩)
noncomputable def LA (vs : List Int) (m r : Int) : Option Int := (bestP (stepsOf vs) m r).map (·.1)
section
variable {vs : List Int} {m : Int}
theorem LA_some {r l : Int} (h : LA vs m r = some l) : Pay vs l ∧ l % m = r ∧ ∀ b, Pay vs b → b % m = r → l ≤ b := by
  unfold LA at h
  cases c : bestP (stepsOf vs) m r with
  | none => rw [c] at h; cases h
  | some p =>
    rw [c] at h
    cases h
    have L := best_is c
    obtain ⟨e1, e2⟩ := wk_pay L.wk
    refine ⟨by show Pay vs p.1; rw [e1]; exact e2, by show p.1 % m = r; rw [e1]; exact L.md, fun b hb hbm => ?_⟩
    have := L.le _ (pay_wk hb) hbm
    unfold leP at this
    simp only at this
    show p.1 ≤ b
    omega
theorem LA_ex (hp : ∀ v ∈ vs, 0 < v) {r b : Int} (hb : Pay vs b) (hr : b % m = r) : ∃ l, LA vs m r = some l := by
  have key : ∀ n : Nat, ∀ b, Pay vs b → b % m = r → b.toNat = n → ∃ l, LA vs m r = some l := by
    intro n
    induction n using Nat.strongRecOn with
    | ind n ih =>
      intro b hb hr hn
      rcases Classical.em (∃ b', Pay vs b' ∧ b' % m = r ∧ b' < b) with ⟨b', h1, h2, h3⟩ | hno
      · exact ih b'.toNat (by have := h1.nonneg hp; omega) b' h1 h2 rfl
      · refine ⟨b, ?_⟩
        unfold LA
        rw [best_some (p := (b, b)) ⟨pay_wk hb, hr, fun q hq hqm => ?_⟩]
        · rfl
        · obtain ⟨e1, e2⟩ := wk_pay hq
          have : ¬ q.2 < b := fun h => hno ⟨q.2, e2, hqm, h⟩
          unfold leP
          simp only
          omega
  exact key _ b hb hr rfl
theorem pay_iff (hm : 0 < m) (hp : ∀ v ∈ vs, 0 < v) {a : Int} : Pay (m :: vs) a ↔ ∃ l, LA vs m (a % m) = some l ∧ l ≤ a := by
  constructor
  · intro h
    have key : ∃ b, Pay vs b ∧ b % m = a % m ∧ b ≤ a := by
      induction h with
      | zero => exact ⟨0, .zero, rfl, Int.le_refl _⟩
      | step _ hv ih =>
        obtain ⟨b, h1, h2, h3⟩ := ih
        rcases List.mem_cons.mp hv with rfl | hv
        · exact ⟨b, h1, by rw [h2, Int.add_emod_right], by omega⟩
        · exact ⟨_, h1.step hv, by rw [Int.add_emod, h2, ← Int.add_emod], by omega⟩
    obtain ⟨b, h1, h2, h3⟩ := key
    obtain ⟨l, hl⟩ := LA_ex hp h1 h2
    exact ⟨l, hl, by have := (LA_some hl).2.2 b h1 h2; omega⟩
  · rintro ⟨l, hl, hla⟩
    obtain ⟨h1, h2, _⟩ := LA_some hl
    have h3 : (a - l) % m = 0 := Int.emod_eq_zero_of_dvd (Int.dvd_of_emod_eq_zero (by rw [Int.sub_emod, h2, Int.sub_self, Int.zero_emod]))
    obtain ⟨k, hk⟩ := Int.dvd_of_emod_eq_zero h3
    have hk0 : 0 ≤ k := by
      rcases Int.lt_or_le k 0 with h | h
      · have := Int.mul_neg_of_pos_of_neg hm h; omega
      · exact h
    have h4 := (Pay.sub (vals' := m :: vs) (fun v hv => List.mem_cons_of_mem _ hv) h1).add (Pay.times (vals := m :: vs) (v := m) List.mem_cons_self k.toNat)
    rw [Int.toNat_of_nonneg hk0, Int.mul_comm k m, ← hk] at h4
    rwa [show l + (a - l) = a by omega] at h4
open Classical in
noncomputable def G (vals : List Int) (x : Nat) : Nat := (List.range x).countP fun a : Nat => decide (¬ Pay vals (a : Int))
open Classical in
theorem G_succ (vals : List Int) (x : Nat) : G vals (x + 1) = G vals x + if Pay vals (x : Int) then 0 else 1 := by
  unfold G
  rw [List.range_succ, List.countP_append, List.countP_singleton]
  by_cases h : Pay vals (x : Int)
  · rw [if_pos h, if_neg (by simp [h])]
  · rw [if_neg h, if_pos (by simp [h])]
theorem G_mono (vals : List Int) {x y : Nat} (h : x ≤ y) : G vals x ≤ G vals y := by
  induction h with
  | refl => exact Nat.le_refl _
  | step _ ih => rw [G_succ]; omega
theorem div_succ (hm : 0 < m) (y : Int) : (y + 1) / m = y / m + if (y + 1) % m = 0 then 1 else 0 := by
  have h1 := Int.emod_nonneg y (show m ≠ 0 by omega)
  have h2 := Int.emod_lt_of_pos y hm
  have h3 := Int.emod_add_mul_ediv y m
  by_cases c : y % m + 1 = m
  · have := (Int.ediv_emod_unique (a := y + 1) (b := m) (r := 0) (q := y / m + 1) hm).mpr ⟨by rw [Int.mul_add, Int.mul_one]; omega, by omega, hm⟩
    rw [this.1, if_pos this.2]
  · have := (Int.ediv_emod_unique (a := y + 1) (b := m) (r := y % m + 1) (q := y / m) hm).mpr ⟨by omega, by omega, by omega⟩
    rw [this.1, if_neg (by rw [this.2]; omega), Int.add_zero]
noncomputable def fst (vs : List Int) (m r x : Int) : Int := if (LA vs m r).isNone = true then x else min ((LA vs m r).getD default) x
noncomputable def fG (vs : List Int) (m r x : Int) : Int := if (decide (r < fst vs m r x)) = true then (((fst vs m r x - r) + m) - 1) / m else 0
theorem ceil_eq (hm : 0 < m) {r y : Int} (hr : 0 ≤ r ∧ r < m) (hy : 0 ≤ y) : (if (decide (r < y)) = true then (((y - r) + m) - 1) / m else 0) = (((y - r) + m) - 1) / m := by
  by_cases c : r < y
  · rw [if_pos (decide_eq_true c)]
  · rw [if_neg (by rw [decide_eq_false c]; decide)]
    exact (Int.ediv_eq_zero_of_lt (by omega) (by omega)).symm
theorem ceil_succ (hm : 0 < m) {r y : Int} (hr : 0 ≤ r ∧ r < m) (hy : 0 ≤ y) : (((y + 1 - r) + m) - 1) / m = (((y - r) + m) - 1) / m + if y % m = r then 1 else 0 := by
  rw [show ((y + 1 - r) + m) - 1 = (((y - r) + m) - 1) + 1 by omega, div_succ hm]
  refine congrArg _ ?_
  have e1 : ((y - r) + m - 1 + 1) % m = (y - r) % m := by rw [show (y - r) + m - 1 + 1 = (y - r) + m by omega, Int.add_emod_right]
  rw [e1]
  have : (y - r) % m = 0 ↔ y % m = r := by
    constructor
    · intro h
      have h2 := Int.emod_emod_of_dvd y (Int.dvd_refl m)
      have h3 : y % m = r % m := Int.emod_eq_emod_iff_emod_sub_eq_zero.mpr h
      rw [h3, Int.emod_eq_of_lt hr.1 hr.2]
    · intro h
      rw [Int.sub_emod, h, Int.emod_eq_of_lt hr.1 hr.2, Int.sub_self, Int.zero_emod]
  by_cases c : y % m = r
  · rw [if_pos c, if_pos (this.mpr c)]
  · rw [if_neg c, if_neg (fun h => c (this.mp h))]
open Classical in
theorem fG_succ (hm : 0 < m) (hp : ∀ v ∈ vs, 0 < v) {r x : Int} (hr : 0 ≤ r ∧ r < m) (hx : 0 ≤ x) : fG vs m r (x + 1) = fG vs m r x + if x % m = r ∧ ¬ Pay (m :: vs) x then 1 else 0 := by
  unfold fG
  cases c : LA vs m r with
  | none =>
    have e1 : ∀ y, fst vs m r y = y := fun y => by unfold fst; rw [c]; rfl
    rw [e1, e1, ceil_eq hm hr (by omega), ceil_eq hm hr hx, ceil_succ hm hr hx]
    refine congrArg _ ?_
    by_cases c2 : x % m = r
    · have hn : ¬ Pay (m :: vs) x := fun h => by
        obtain ⟨l, hl, _⟩ := (pay_iff hm hp).mp h
        rw [c2, c] at hl; cases hl
      rw [if_pos c2, if_pos ⟨c2, hn⟩]
    · rw [if_neg c2, if_neg (fun h => c2 h.1)]
  | some l =>
    have hl0 : 0 ≤ l := (LA_some c).1.nonneg hp
    have e1 : ∀ y, fst vs m r y = min l y := fun y => by unfold fst; rw [c]; rfl
    rw [e1, e1, ceil_eq hm hr (by omega), ceil_eq hm hr (by omega)]
    by_cases c2 : x < l
    · rw [show min l (x + 1) = x + 1 by omega, show min l x = x by omega, ceil_succ hm hr hx]
      refine congrArg _ ?_
      by_cases c3 : x % m = r
      · have hn : ¬ Pay (m :: vs) x := fun h => by
          obtain ⟨l', hl, hle⟩ := (pay_iff hm hp).mp h
          rw [c3, c] at hl; cases hl
          omega
        rw [if_pos c3, if_pos ⟨c3, hn⟩]
      · rw [if_neg c3, if_neg (fun h => c3 h.1)]
    · rw [show min l (x + 1) = l by omega, show min l x = l by omega, if_neg, Int.add_zero]
      rintro ⟨h1, h2⟩
      exact h2 ((pay_iff hm hp).mpr ⟨l, by rw [h1]; exact c, by omega⟩)
theorem fG_zero (hm : 0 < m) (hp : ∀ v ∈ vs, 0 < v) {r : Int} (hr : 0 ≤ r ∧ r < m) : fG vs m r 0 = 0 := by
  unfold fG
  refine if_neg ?_
  rw [decide_eq_true_eq]
  unfold fst
  split
  · omega
  · omega
noncomputable def sG (vs : List Int) (m x : Int) : Int := ((List.range m.toNat).map fun r : Nat => fG vs m (r : Int) x).sum
theorem sum_add {α : Type} (f g : α → Int) : ∀ l : List α, (l.map fun x => f x + g x).sum = (l.map f).sum + (l.map g).sum
  | [] => rfl
  | x :: r => by
    simp only [List.map_cons, List.sum_cons, sum_add f g r]; omega
theorem sum_one {α : Type} [DecidableEq α] (y : α) (c : Int) : ∀ l : List α, l.Nodup → y ∈ l → (l.map fun x => if y = x then c else 0).sum = c
  | [], _, h => by cases h
  | x :: r, hn, h => by
    obtain ⟨h1, h2⟩ := List.nodup_cons.mp hn
    simp only [List.map_cons, List.sum_cons]
    by_cases c2 : y = x
    · subst c2
      have : (r.map fun x => if y = x then c else 0).sum = 0 := by
        have : (r.map fun x => if y = x then c else 0) = r.map fun _ => (0 : Int) := List.map_congr_left fun z hz => if_neg fun q => h1 (by rw [q]; exact hz)
        rw [this]
        clear this h1 h2 hn h
        induction r with
        | nil => rfl
        | cons _ _ ih => simp only [List.map_cons, List.sum_cons, ih]; rfl
      rw [if_pos rfl, this, Int.add_zero]
    · rw [if_neg c2, sum_one y c r h2 ((List.mem_cons.mp h).resolve_left c2), Int.zero_add]
theorem sum_zero {α : Type} : ∀ l : List α, (l.map fun _ => (0 : Int)).sum = 0
  | [] => rfl
  | x :: r => by simp only [List.map_cons, List.sum_cons, sum_zero r]; rfl
open Classical in
theorem sG_eq (hm : 0 < m) (hp : ∀ v ∈ vs, 0 < v) : ∀ x : Nat, sG vs m (x : Int) = (G (m :: vs) x : Int)
  | 0 => by
    unfold sG
    have : ((List.range m.toNat).map fun r : Nat => fG vs m (r : Int) ((0 : Nat) : Int)) = (List.range m.toNat).map fun _ => (0 : Int) := List.map_congr_left fun r hr => by
      have := List.mem_range.mp hr
      exact fG_zero hm hp ⟨by omega, by omega⟩
    rw [this, sum_zero]; rfl
  | x + 1 => by
    have ih := sG_eq hm hp x
    rw [G_succ]
    unfold sG at ih ⊢
    have e1 : ((List.range m.toNat).map fun r : Nat => fG vs m (r : Int) ((x + 1 : Nat) : Int)) = (List.range m.toNat).map fun r : Nat => fG vs m (r : Int) (x : Int) + (if (((x : Int) % m).toNat) = r then (((if Pay (m :: vs) (x : Int) then 0 else 1 : Nat)) : Int) else (0 : Int)) := List.map_congr_left fun r hr => by
      have hr := List.mem_range.mp hr
      have h0 := Int.emod_nonneg (x : Int) (show m ≠ 0 by omega)
      rw [show ((x + 1 : Nat) : Int) = (x : Int) + 1 by omega, fG_succ hm hp ⟨by omega, by omega⟩ (by omega)]
      refine congrArg _ ?_
      by_cases c : (x : Int) % m = (r : Int)
      · rw [if_pos (show ((x : Int) % m).toNat = r by omega)]
        by_cases c2 : Pay (m :: vs) (x : Int)
        · rw [if_neg (fun h => h.2 c2), if_pos c2]; rfl
        · rw [if_pos ⟨c, c2⟩, if_neg c2]; rfl
      · rw [if_neg (fun h => c h.1), if_neg (show ¬ ((x : Int) % m).toNat = r by omega)]
    have hlt : ((x : Int) % m).toNat < m.toNat := by
      have h0 := Int.emod_nonneg (x : Int) (show m ≠ 0 by omega)
      have h1 := Int.emod_lt_of_pos (x : Int) hm
      omega
    rw [e1, sum_add, ih, sum_one _ _ _ List.nodup_range (List.mem_range.mpr hlt)]
    exact (Int.natCast_add _ _).symm
def J (vs : List Int) (m x : Int) : Prop := ∃ a, Pay vs a ∧ (a - x) % m = 0
theorem J.add {x y : Int} (h : J vs m x) (k : J vs m y) : J vs m (x + y) := by
  obtain ⟨a, h1, h2⟩ := h
  obtain ⟨b, h3, h4⟩ := k
  refine ⟨a + b, h1.add h3, ?_⟩
  rw [show a + b - (x + y) = (a - x) + (b - y) by omega, Int.add_emod, h2, h4]; simp
theorem J.zero : J vs m 0 := ⟨0, .zero, by simp⟩
theorem J.nat {x : Int} (h : J vs m x) : ∀ k : Nat, J vs m ((k : Int) * x)
  | 0 => by rw [show ((0 : Nat) : Int) * x = 0 by simp]; exact J.zero
  | k + 1 => by
    have := (J.nat h k).add h
    rw [show ((k + 1 : Nat) : Int) * x = (k : Int) * x + x by rw [Int.natCast_add, Int.add_mul]; simp]
    exact this
theorem J.cong {x y : Int} (h : J vs m x) (hxy : (x - y) % m = 0) : J vs m y := by
  obtain ⟨a, h1, h2⟩ := h
  refine ⟨a, h1, ?_⟩
  rw [show a - y = (a - x) + (x - y) by omega, Int.add_emod, h2, hxy]; simp
theorem J.neg (hm : 0 < m) {x : Int} (h : J vs m x) : J vs m (-x) := by
  refine (h.nat (m - 1).toNat).cong ?_
  rw [Int.toNat_of_nonneg (by omega), Int.sub_mul, Int.one_mul, show m * x - x - -x = m * x by omega]
  exact Int.mul_emod_right ..
theorem J.int (hm : 0 < m) {x : Int} (h : J vs m x) (k : Int) : J vs m (k * x) := by
  rcases Int.le_total 0 k with c | c
  · have := h.nat k.toNat
    rwa [Int.toNat_of_nonneg c] at this
  · have := (h.nat (-k).toNat).neg hm
    rw [Int.toNat_of_nonneg (by omega), Int.neg_mul, Int.neg_neg] at this
    exact this
theorem J.gcd (hm : 0 < m) : ∀ (a b : Nat), J vs m (a : Int) → J vs m (b : Int) → J vs m ((Nat.gcd a b : Nat) : Int) := by
  intro a b
  induction a, b using Nat.gcd.induction with
  | H0 n => intro _ h; rwa [Nat.gcd_zero_left]
  | H1 a b ha ih =>
    intro h1 h2
    rw [Nat.gcd_rec]
    refine ih ?_ h1
    have := h2.add ((h1.int hm ((b / a : Nat) : Int)).neg hm)
    have e1 : (b : Int) + -(((b / a : Nat) : Int) * (a : Int)) = ((b % a : Nat) : Int) := by
      have := Nat.div_add_mod b a
      have e2 : (((b / a : Nat) : Int) * (a : Int)) = ((a * (b / a) : Nat) : Int) := by rw [Int.natCast_mul, Int.mul_comm]
      rw [e2]; omega
    rwa [e1] at this
theorem J.self (hm : 0 < m) {v : Int} (h : v ∈ m :: vs) : J vs m v := by
  rcases List.mem_cons.mp h with rfl | h
  · exact ⟨0, .zero, by rw [show (0 : Int) - v = -v by omega]; exact Int.emod_eq_zero_of_dvd (Int.dvd_neg.mpr (Int.dvd_refl v))⟩
  · exact ⟨0 + v, .step .zero h, by rw [Int.zero_add, Int.sub_self, Int.zero_emod]⟩
theorem J.gcdL (hm : 0 < m) : ∀ (us : List Int) (f : Int), (∀ v ∈ us, v ∈ m :: vs) → (∀ v ∈ us, 0 < v) → 0 ≤ f → J vs m f → J vs m (Gk.gcdL us f)
  | [], f, _, _, _, h => h
  | v :: r, f, hs, hv, hf, h => by
    have hv0 := hv v (by simp)
    refine J.gcdL hm r _ (fun x hx => hs x (List.mem_cons_of_mem _ hx)) (fun x hx => hv x (List.mem_cons_of_mem _ hx)) (by omega) ?_
    have h1 := J.self hm (hs v (by simp))
    have := J.gcd (vs := vs) hm v.natAbs f.natAbs (by rw [show ((v.natAbs : Nat) : Int) = v by omega]; exact h1) (by rw [show ((f.natAbs : Nat) : Int) = f by omega]; exact h)
    exact this
inductive Wn (vs : List Int) : Nat → Int → Prop
  | zero : Wn vs 0 0
  | step {k : Nat} {a v : Int} : Wn vs k a → v ∈ vs → Wn vs (k + 1) (a + v)
theorem wn_pay {k : Nat} {a : Int} (h : Wn vs k a) : Pay vs a := by
  induction h with
  | zero => exact .zero
  | step _ hv ih => exact .step ih hv
theorem wn_le {B : Int} (hb : ∀ v ∈ vs, v ≤ B) {k : Nat} {a : Int} (h : Wn vs k a) : a ≤ (k : Int) * B := by
  induction h with
  | zero => simp
  | step _ hv ih => have := hb _ hv; rw [Int.natCast_add, Int.add_mul]; simp only [Int.natCast_one, Int.one_mul]; omega
theorem pay_wn {a : Int} (h : Pay vs a) : ∃ k, Wn vs k a := by
  induction h with
  | zero => exact ⟨0, .zero⟩
  | step _ hv ih => obtain ⟨k, h⟩ := ih; exact ⟨k + 1, .step h hv⟩
def Rk (vs : List Int) (m : Int) (k : Nat) (r : Nat) : Prop := ∃ j, j ≤ k ∧ ∃ a, Wn vs j a ∧ a % m = (r : Int)
theorem Rk.mono {k l r : Nat} (h : Rk vs m k r) (hk : k ≤ l) : Rk vs m l r := by
  obtain ⟨j, h1, h2⟩ := h
  exact ⟨j, Nat.le_trans h1 hk, h2⟩
theorem Rk.next (hm : 0 < m) {k l r : Nat} (h : ∀ r, r < m.toNat → Rk vs m (k + 1) r → Rk vs m k r) : ∀ l r, r < m.toNat → Rk vs m l r → Rk vs m k r := by
  have key : ∀ l : Nat, ∀ a, Wn vs l a → ∀ r : Nat, a % m = (r : Int) → Rk vs m k r := by
    intro l
    induction l with
    | zero =>
      intro a ha r hr
      exact ⟨0, Nat.zero_le _, a, ha, hr⟩
    | succ l ih =>
      intro a ha r hr
      cases ha with
      | @step _ b v hb hv =>
        have h0 := Int.emod_nonneg b (show m ≠ 0 by omega)
        obtain ⟨j, h1, c, h2, h3⟩ := ih b hb (b % m).toNat (by omega)
        have hrm : r < m.toNat := by have := Int.emod_lt_of_pos (b + v) hm; omega
        refine h r hrm ⟨j + 1, by omega, c + v, h2.step hv, ?_⟩
        rw [← hr, Int.add_emod, h3, show (((b % m).toNat : Nat) : Int) = b % m by omega, ← Int.add_emod]
  intro l r _ ⟨j, _, a, ha, hr⟩
  exact key j a ha r hr
open Classical in
noncomputable def cnt (vs : List Int) (m : Int) (k : Nat) : Nat := (List.range m.toNat).countP fun r => decide (Rk vs m k r)
open Classical in
theorem cnt_grow (hm : 0 < m) : ∀ k : Nat, k + 1 ≤ cnt vs m k ∨ ∀ l r, r < m.toNat → Rk vs m l r → Rk vs m k r
  | 0 => by
    refine .inl ?_
    unfold cnt
    refine List.countP_pos_iff.mpr ⟨0, List.mem_range.mpr (by omega), decide_eq_true ⟨0, Nat.le_refl _, 0, .zero, ?_⟩⟩
    rw [Int.zero_emod]; rfl
  | k + 1 => by
    rcases cnt_grow hm k with h | h
    · rcases Classical.em (∀ r, r < m.toNat → Rk vs m (k + 1) r → Rk vs m k r) with c | c
      · exact .inr fun l r hr hl => (Rk.next (l := 0) (r := 0) hm c l r hr hl).mono (Nat.le_succ _)
      · refine .inl ?_
        have : ∃ r, r < m.toNat ∧ Rk vs m (k + 1) r ∧ ¬ Rk vs m k r := by
          rcases Classical.em (∃ r, r < m.toNat ∧ Rk vs m (k + 1) r ∧ ¬ Rk vs m k r) with d | d
          · exact d
          · exact absurd (fun r h1 h2 => Classical.byContradiction fun h3 => d ⟨r, h1, h2, h3⟩) c
        obtain ⟨r, h1, h2, h3⟩ := this
        have key : ∀ l : List Nat, r ∈ l → (l.countP fun r => decide (Rk vs m k r)) + 1 ≤ l.countP fun r => decide (Rk vs m (k + 1) r) := by
          have le : ∀ l : List Nat, (l.countP fun r => decide (Rk vs m k r)) ≤ l.countP fun r => decide (Rk vs m (k + 1) r) := fun l => List.countP_mono_left fun x _ hx => decide_eq_true ((of_decide_eq_true hx).mono (Nat.le_succ _))
          intro l hl
          induction l with
          | nil => cases hl
          | cons x l ih =>
            rw [List.countP_cons, List.countP_cons]
            rcases List.mem_cons.mp hl with rfl | hl
            · rw [decide_eq_false h3, decide_eq_true h2]
              have := le l
              simp; omega
            · have := ih hl
              by_cases d : Rk vs m k x
              · rw [decide_eq_true d, decide_eq_true (d.mono (Nat.le_succ _))]; simp; omega
              · rw [decide_eq_false d]; simp; split <;> omega
        have := key _ (List.mem_range.mpr h1)
        unfold cnt at h ⊢
        omega
    · exact .inr fun l r hr hl => (h l r hr hl).mono (Nat.le_succ _)
open Classical in
theorem few_steps (hm : 0 < m) {r : Nat} (hr : r < m.toNat) {a : Int} (ha : Pay vs a) (h : a % m = (r : Int)) : Rk vs m (m.toNat - 1) r := by
  rcases cnt_grow (vs := vs) hm (m.toNat - 1) with c | c
  · unfold cnt at c
    have h1 : ((List.range m.toNat).countP fun r => decide (Rk vs m (m.toNat - 1) r)) = (List.range m.toNat).length := by
      have := List.countP_le_length (p := fun r => decide (Rk vs m (m.toNat - 1) r)) (l := List.range m.toNat)
      rw [List.length_range] at this ⊢
      omega
    exact of_decide_eq_true (List.countP_eq_length.mp h1 r (List.mem_range.mpr hr))
  · obtain ⟨k, hk⟩ := pay_wn ha
    exact c k r hr ⟨k, Nat.le_refl _, a, hk, h⟩
theorem all_met (hm : 0 < m) (hp : ∀ v ∈ vs, 0 < v) {B : Int} (hB : ∀ v ∈ vs, v ≤ B) (hB0 : 0 ≤ B) (hg : Gk.gcdL (m :: vs) 0 = 1) {r : Int} (hr : 0 ≤ r ∧ r < m) : ∃ l, LA vs m r = some l ∧ l ≤ (m - 1) * B := by
  have h1 : J vs m 1 := by
    rw [← hg]
    exact J.gcdL hm (m :: vs) 0 (fun _ h => h) (fun v hv => by
      rcases List.mem_cons.mp hv with rfl | hv
      · exact hm
      · exact hp v hv) (Int.le_refl _) J.zero
  obtain ⟨a, h2, h3⟩ := h1.int hm r
  rw [Int.mul_one] at h3
  have h4 : a % m = r := by
    have := Int.emod_eq_emod_iff_emod_sub_eq_zero.mpr h3
    rw [this, Int.emod_eq_of_lt hr.1 hr.2]
  obtain ⟨l, hl⟩ := LA_ex hp h2 h4
  refine ⟨l, hl, ?_⟩
  obtain ⟨j, h5, b, h6, h7⟩ := few_steps (r := r.toNat) hm (by omega) h2 (by omega)
  have h8 := (LA_some hl).2.2 b (wn_pay h6) (by omega)
  have h9 := wn_le hB h6
  have h10 : (j : Int) * B ≤ (m - 1) * B := Int.mul_le_mul_of_nonneg_right (by omega) hB0
  omega
theorem gcdL_dvd : ∀ (us : List Int) (f : Int), 0 ≤ f → (Gk.gcdL us f ∣ f) ∧ ∀ v ∈ us, Gk.gcdL us f ∣ v
  | [], f, _ => ⟨Int.dvd_refl _, fun v h => nomatch h⟩
  | v :: r, f, hf => by
    have h := gcdL_dvd r ((Int.gcd v f : Nat) : Int) (by omega)
    refine ⟨Int.dvd_trans h.1 (Int.gcd_dvd_right ..), fun x hx => ?_⟩
    rcases List.mem_cons.mp hx with rfl | hx
    · exact Int.dvd_trans h.1 (Int.gcd_dvd_left ..)
    · exact h.2 x hx
theorem pay_dvd {vals : List Int} {g : Int} (h : ∀ v ∈ vals, g ∣ v) {a : Int} (k : Pay vals a) : g ∣ a := by
  induction k with
  | zero => exact Int.dvd_zero g
  | step _ hv ih => exact Int.dvd_add ih (h _ hv)
end
end Px
set_option Elab.async false
set_option linter.all false
set_option maxRecDepth 100000
set_option maxHeartbeats 4000000
namespace Gn
open PySem DL L2 TY
open En (e)
open Pa
def d__law_heard (mk : EXn → DE) (EP : Exc → Sto → Prop) : DS :=
  (dTryAs "CoinError" 1 (fun EX => (dRet (dTup (dCons (dC (.str "told")) (dCons (mk EX) dNil))))) (fun e a => (dSeq (dIfS (dTru (dIsE 1 a e "Refused")) (dRet (dTup (dCons (dC (.str "refused")) (dCons (dXf 1 a e "why") dNil)))) dNext)
  (dSeq (dIfS (dTru (dIsE 1 a e "TooMany")) (dRet (dTup (dCons (dC (.str "many")) (dCons (dXf 1 a e "what") (dCons (dXf 1 a e "limit") dNil))))) dNext)
  (dRet (dIf (dTru (dIsE 1 a e "Nothing")) (dTup (dCons (dC (.str "nothing")) dNil)) (dTup (dCons (dC (.str "other")) dNil))))))) (xF EP))
def W__law_heard (res_ : Except Exc D) (K : D → Prop) (E : Exc → Prop) : Prop :=
  wTry (fun er_1 : Exc => ∃ b_ : Bool, tcE er_1.cls "CoinError" = some b_ ∧ (b_ = true → (tcE er_1.cls "Refused").isSome = true ∧ wIf ((tcE er_1.cls "Refused").getD false) ((fldE er_1.cls "why" = true ∧ (er_1.fs.lookup ("why" : Str)).isSome = true) ∧ wAp K (e (((("refused" : Str), (xget er_1 "why")) : (Str × D)) : (Str × D)))) ((tcE er_1.cls "TooMany").isSome = true ∧ wIf ((tcE er_1.cls "TooMany").getD false) ((fldE er_1.cls "what" = true ∧ (er_1.fs.lookup ("what" : Str)).isSome = true) ∧ (fldE er_1.cls "limit" = true ∧ (er_1.fs.lookup ("limit" : Str)).isSome = true) ∧ wAp K (e (((T3.mk ("many" : Str) (xget er_1 "what") (xget er_1 "limit")) : (T3 Str D D)) : (T3 Str D D)))) ((tcE er_1.cls "Nothing").isSome = true ∧ wAp K (if ((tcE er_1.cls "Nothing").getD false) = true then (e (([("nothing" : Str)] : (List Str)) : (List Str))) else (e (([("other" : Str)] : (List Str)) : (List Str))))))) ∧ (b_ = false → E er_1)) (fun E_2 : Exc → Prop => wRes res_ (fun v_10 : D => wAp K (e ((("told" : Str), v_10) : (Str × D)))) E_2)
theorem pure__law_heard {res_ : Except Exc D} {mk : EXn → DE} {f_ : Addr} {S0 : Sto} {O : List Addr} {Q : DQ} {EP : Exc → Sto → Prop} (hA_ : HAct res_ mk f_ S0) (hc : Cx [] O S0) (h : W__law_heard res_ (fun y_ => ∀ d S', Ext S0 S' → ((v D)).r (ct [] O S') y_ d → Q d S') (fun er => ∀ S', Ext S0 S' → EP er S')) : d__law_heard mk EP { nx := fun _ S' => Q .non S', rt := Q } (startD 2 [.ref f_]) S0 := by
  have hc0 : Cx [] [] S0 := Cx.nil
  have k0 := St.refl [] S0
  have hBR := BR.top hc0
  show (_ : DS) _ [some (.ref f_), none] _
  unfold d__law_heard
  unfold W__law_heard at h
  obtain ⟨E_2, eE_2, h⟩ := wTry_x h
  try unfold dNext
  try dsimp only
  refine try_i ?_
  show (_ : DS) _ [some (.ref f_), none] _
  try (unfold dNext; dsimp only)
  refine (sw_ret (B := []) (EW.any (ew_pr2 (EW.pure (ED.o (O' := O) (ei_c ("told" : Str) rfl))) (ew_act (E := E_2) hA_ rfl k0 (fun er_1 S1 k1 h => ?_)))) h fun v d S1 k1 r h => h d S1 (St.nil (k0.trans k1)) r)
  · rw [eE_2] at h
    obtain ⟨bb_, hb_, hy_, hn_⟩ := h
    refine ⟨bb_, hb_, fun e1_ a_ ha_ => ?_, fun e1_ => ?_⟩
    · have h := hy_ e1_
      have k0 := hBR.st k0 k1
      have hc := hc.st k1
      show (_ : DS) _ [some (.ref f_), some (.ref a_)] _
      obtain ⟨o_11, h⟩ := h
      refine seq_i (st_if (B := []) (eb_tru (ei_isE (i := 1) rfl o_11)) h (fun S1 k1 hb_ h => ?_) (fun S1 k1 hb_ h => ?_))
      · have k0 := hBR.st k0 k1
        have hc := hc.st k1
        obtain ⟨o_12, h⟩ := h
        refine (st_ret (B := []) (EI.any (ei_tup (x := ((("refused" : Str), (xget er_1 "why")) : (Str × D))) (el_cons (ei_c ("refused" : Str) rfl) (el_cons (ei_xf (i := 1) rfl o_12) el_nil)) rfl (szl (by decide : 2 ≤ 1000)))) h fun v d S1 k1 r h => h d S1 (St.nil (k0.trans k1)) r)
      · have k0 := hBR.st k0 k1
        have hc := hc.st k1
        show (_ : DS) _ [some (.ref f_), some (.ref a_)] _
        show (_ : DS) _ [some (.ref f_), some (.ref a_)] _
        obtain ⟨o_13, h⟩ := h
        refine seq_i (st_if (B := []) (eb_tru (ei_isE (i := 1) rfl o_13)) h (fun S1 k1 hb_ h => ?_) (fun S1 k1 hb_ h => ?_))
        · have k0 := hBR.st k0 k1
          have hc := hc.st k1
          obtain ⟨o_14, o_15, h⟩ := h
          refine (st_ret (B := []) (EI.any (ei_tup (x := ((T3.mk ("many" : Str) (xget er_1 "what") (xget er_1 "limit")) : (T3 Str D D))) (el_cons (ei_c ("many" : Str) rfl) (el_cons (ei_xf (i := 1) rfl o_14) (el_cons (ei_xf (i := 1) rfl o_15) el_nil))) rfl (szl (by decide : 3 ≤ 1000)))) h fun v d S1 k1 r h => h d S1 (St.nil (k0.trans k1)) r)
        · have k0 := hBR.st k0 k1
          have hc := hc.st k1
          show (_ : DS) _ [some (.ref f_), some (.ref a_)] _
          show (_ : DS) _ [some (.ref f_), some (.ref a_)] _
          obtain ⟨o_17, h⟩ := h
          try (unfold dNext; dsimp only)
          refine (st_ret (B := []) (ed_if (eb_tru (ei_isE (i := 1) rfl o_17)) (fun hx_16 => (EI.any (ei_tup (x := ([("nothing" : Str)] : (List Str))) (el_cons (ei_c ("nothing" : Str) rfl) el_nil) rfl (szl (by decide : 1 ≤ 1000))))) (fun hx_16 => (EI.any (ei_tup (x := ([("other" : Str)] : (List Str))) (el_cons (ei_c ("other" : Str) rfl) el_nil) rfl (szl (by decide : 1 ≤ 1000)))))) h fun v d S1 k1 r h => h d S1 (St.nil (k0.trans k1)) r)
    have h := hn_ e1_
    exact h S1 (St.nil (k0.trans k1))
def F__law_heard (res_ : Except Exc D) : D := match res_ with
  | .ok v => .tup [.str "told", v]
  | .error er => if er.cls = ("Refused" : Str) then .tup [.str "refused", xget er "why"] else if er.cls = ("TooMany" : Str) then .tup [.str "many", xget er "what", xget er "limit"] else .tup [.str "nothing"]
def ok__law_heard (res_ : Except Exc D) : Prop := match res_ with
  | .ok _ => True
  | .error er => (er.cls = ("Refused" : Str) ∧ (er.fs.lookup ("why" : Str)).isSome = true) ∨ (er.cls = ("TooMany" : Str) ∧ (er.fs.lookup ("what" : Str)).isSome = true ∧ (er.fs.lookup ("limit" : Str)).isSome = true) ∨ er.cls = ("Nothing" : Str)
theorem heard_R (fs : List (Str × D)) : F__law_heard (.error ⟨"Refused", fs⟩) = .tup [.str "refused", xget ⟨"Refused", fs⟩ "why"] := by
  unfold F__law_heard
  dsimp only
  rw [if_pos rfl]
theorem heard_M (fs : List (Str × D)) : F__law_heard (.error ⟨"TooMany", fs⟩) = .tup [.str "many", xget ⟨"TooMany", fs⟩ "what", xget ⟨"TooMany", fs⟩ "limit"] := by
  have h : ¬ (("TooMany" : Str) = ("Refused" : Str)) := by decide +kernel
  unfold F__law_heard
  dsimp only
  rw [if_neg h, if_pos rfl]
theorem heard_N (fs : List (Str × D)) : F__law_heard (.error ⟨"Nothing", fs⟩) = .tup [.str "nothing"] := by
  have h : ¬ (("Nothing" : Str) = ("Refused" : Str)) := by decide +kernel
  have h2 : ¬ (("Nothing" : Str) = ("TooMany" : Str)) := by decide +kernel
  unfold F__law_heard
  dsimp only
  rw [if_neg h, if_neg h2]
theorem w__law_heard {res_ : Except Exc D} (o : ok__law_heard res_) {K : D → Prop} {E : Exc → Prop} (h : K (F__law_heard res_)) : W__law_heard res_ K E := by
  cases res_ with
  | ok v => exact h
  | error er =>
    obtain ⟨cls, fs⟩ := er
    have hR : tcE ("Refused" : Str) "CoinError" = some true ∧ (tcE ("Refused" : Str) "Refused").isSome = true ∧ fldE ("Refused" : Str) "why" = true ∧ (tcE ("Refused" : Str) "Refused").getD false = true := by decide +kernel
    have hM : tcE ("TooMany" : Str) "CoinError" = some true ∧ (tcE ("TooMany" : Str) "Refused").isSome = true ∧ (tcE ("TooMany" : Str) "Refused").getD false = false ∧ (tcE ("TooMany" : Str) "TooMany").isSome = true ∧ (tcE ("TooMany" : Str) "TooMany").getD false = true ∧ fldE ("TooMany" : Str) "what" = true ∧ fldE ("TooMany" : Str) "limit" = true ∧ ¬ (("TooMany" : Str) = ("Refused" : Str)) := by decide +kernel
    have hN : tcE ("Nothing" : Str) "CoinError" = some true ∧ (tcE ("Nothing" : Str) "Refused").isSome = true ∧ (tcE ("Nothing" : Str) "Refused").getD false = false ∧ (tcE ("Nothing" : Str) "TooMany").isSome = true ∧ (tcE ("Nothing" : Str) "TooMany").getD false = false ∧ (tcE ("Nothing" : Str) "Nothing").isSome = true ∧ (tcE ("Nothing" : Str) "Nothing").getD false = true ∧ ¬ (("Nothing" : Str) = ("Refused" : Str)) ∧ ¬ (("Nothing" : Str) = ("TooMany" : Str)) := by decide +kernel
    rcases o with ⟨o1, o2⟩ | ⟨o1, o2, o3⟩ | o1
    all_goals
      dsimp only at o1
      subst o1
    · refine ⟨true, hR.1, fun _ => ⟨hR.2.1, ?_⟩, fun z => by cases z⟩
      refine wIf_i (fun _ => ⟨⟨hR.2.2.1, o2⟩, ?_⟩) fun hc => ?_
      · rw [heard_R] at h
        exact h
      · rw [hR.2.2.2] at hc; cases hc
    · obtain ⟨a1, a2, a3, a4, a5, a6, a7, a8⟩ := hM
      refine ⟨true, a1, fun _ => ⟨a2, ?_⟩, fun z => by cases z⟩
      refine wIf_i (fun hc => ?_) fun _ => ⟨a4, wIf_i (fun _ => ⟨⟨a6, o2⟩, ⟨a7, o3⟩, ?_⟩) fun hc => ?_⟩
      · rw [a3] at hc; cases hc
      · rw [heard_M] at h
        exact h
      · rw [a5] at hc; cases hc
    · obtain ⟨a1, a2, a3, a4, a5, a6, a7, a8, a9⟩ := hN
      refine ⟨true, a1, fun _ => ⟨a2, ?_⟩, fun z => by cases z⟩
      refine wIf_i (fun hc => ?_) fun _ => ⟨a4, wIf_i (fun hc => ?_) fun _ => ⟨a6, ?_⟩⟩
      · rw [a3] at hc; cases hc
      · rw [a5] at hc; cases hc
      · rw [heard_N] at h
        show K (if (tcE ("Nothing" : Str) "Nothing").getD false = true then _ else _)
        rw [if_pos a7]
        exact h
end Gn
set_option Elab.async false
set_option linter.all false
set_option maxRecDepth 100000
set_option maxHeartbeats 4000000
namespace Gp
open PySem DL L2 TY
open En (e)
open Pa
def dupd {κ α : Type} [DecidableEq κ] (a b : List (κ × α)) : List (κ × α) := b.foldl (fun d q => dput d q.1 q.2) a
abbrev Inn := List (Int × Bool)
abbrev Tri := Int × Addr × Inn
def encI (i : Inn) : List (Int × D) := i.map fun z => (z.1, e z.2)
def encT (M : List Tri) : List (Int × D) := M.map fun m => (m.1, D.ref m.2.1)
structure NN (S : Sto) (p : Addr) (M : List Tri) : Prop where
  at_ : S p = some (Ky.cell none (encT M))
  nd : (p :: M.map (·.2.1)).Nodup
  inn : ∀ m ∈ M, S m.2.1 = some (Ky.cell none (encI m.2.2))
def val (M : List Tri) : List (Int × Inn) := M.map fun m => (m.1, m.2.2)
theorem putD_e (i : Inn) (k : Int) (x : Bool) : DL.putD (encI i) k (e x) = encI (dput i k x) := by
  unfold DL.putD dput encI
  rw [List.any_map]
  have : ((fun kv : Int × D => decide (kv.1 = k)) ∘ fun z : Int × Bool => ((z.1, e z.2) : Int × D)) = fun z : Int × Bool => decide (z.1 = k) := rfl
  rw [this]
  split
  · rw [List.map_map, List.map_map]
    refine List.map_congr_left fun z _ => ?_
    show (if z.1 = k then (z.1, e x) else (z.1, e z.2)) = ((if z.1 = k then (z.1, x) else z).1, e (if z.1 = k then (z.1, x) else z).2)
    split <;> rfl
  · rw [List.map_append]; rfl
theorem mg_inl (more : List (Int × D)) : ∀ kvs : List (Int × D), mgD (kvs.map fun p => ((Sum.inl p.1 : L2.Key), p.2)) (more.map fun p => ((Sum.inl p.1 : L2.Key), p.2)) = (more.foldl (fun d q => DL.putD d q.1 q.2) kvs).map fun p => ((Sum.inl p.1 : L2.Key), p.2) := by
  induction more with
  | nil => intro kvs; rfl
  | cons q more ih =>
    intro kvs
    show mgD (DL.putD _ _ _) _ = _
    rw [putD_inj (fun i : Int => (Sum.inl i : L2.Key)) (fun _ _ z => by cases z; rfl), ih]
    rfl
theorem fold_e (b : Inn) : ∀ a : Inn, (encI b).foldl (fun d q => DL.putD d q.1 q.2) (encI a) = encI (dupd a b) := by
  induction b with
  | nil => intro a; rfl
  | cons q b ih =>
    intro a
    show (encI b).foldl _ (DL.putD (encI a) q.1 (e q.2)) = _
    rw [putD_e, ih]; rfl
theorem mg_cell (a b : Inn) : (Cell.dK none (mgD ((encI a).map fun p => ((Sum.inl p.1 : L2.Key), p.2)) ((encI b).map fun p => ((Sum.inl p.1 : L2.Key), p.2)))) = Ky.cell none (encI (dupd a b)) := by
  rw [mg_inl, fold_e]; rfl
def nput (M : List Tri) (k : Int) (p : Addr) (b : Inn) : List Tri := if (M.any fun m => decide (m.1 = k)) = true then M.map (fun m => if m.1 = k then (m.1, m.2.1, dupd m.2.2 b) else m) else M ++ [(k, p, dupd [] b)]
def NewS (S0 : Sto) (p : Addr) (M : List Tri) : Prop := S0 p = none ∧ ∀ m ∈ M, S0 m.2.1 = none
theorem NN.ext {S S' : Sto} {p : Addr} {M : List Tri} (h : NN S p M) (x : Ext S S') : NN S' p M := ⟨x _ _ h.at_, h.nd, fun m hm => x _ _ (h.inn m hm)⟩
theorem find_of {M : List Tri} {k : Int} (h : (M.any fun m => decide (m.1 = k)) = true) : ∃ m ∈ M, m.1 = k := by
  obtain ⟨m, hm, h⟩ := List.any_eq_true.mp h
  exact ⟨m, hm, of_decide_eq_true h⟩
theorem valD_enc (M : List Tri) (k : Int) : valD ((encT M).map fun p => ((Sum.inl p.1 : L2.Key), p.2)) (Sum.inl k) = (M.find? fun m => decide (m.1 = k)).map fun m => D.ref m.2.1 := by
  rw [valD_inj (fun i : Int => (Sum.inl i : L2.Key)) (fun _ _ z => by cases z; rfl)]
  unfold valD encT
  rw [List.find?_map, Option.map_map]
  rfl
theorem encI_of {S : Sto} {b : Inn} {ds : List (Int × D)} (h : All2 (DR Int (v Bool) S) b ds) : ds = encI b := by
  unfold encI
  induction h with
  | nil => rfl
  | @cons u w _ _ h _ ih =>
    rw [List.map_cons, ← ih]
    obtain ⟨k', d'⟩ := w
    obtain ⟨h1, h2⟩ := h
    cases h1
    cases (show d' = e u.2 from h2)
    rfl
theorem key_uniq {α β : Type} (f : α → β) : ∀ {l : List α}, (l.map f).Nodup → ∀ a ∈ l, ∀ c ∈ l, f a = f c → a = c
  | [], _, _, ha, _, _, _ => by cases ha
  | y :: l, hnd, a, ha, c, hc, hac => by
    rw [List.map_cons, List.nodup_cons] at hnd
    rcases List.mem_cons.mp ha with rfl | ha
    · rcases List.mem_cons.mp hc with rfl | hc
      · rfl
      · exact absurd (List.mem_map.mpr ⟨c, hc, hac.symm⟩) hnd.1
    · rcases List.mem_cons.mp hc with e1 | hc
      · exact absurd (List.mem_map.mpr ⟨a, ha, by rw [← e1]; exact hac⟩) hnd.1
      · exact key_uniq f hnd.2 a ha c hc hac
theorem turn {tk tc : DE} {ρ : Nv} {i : Nat} {S S0 : Sto} {p : Addr} {M : List Tri} {k : Int} {b : Inn} {Q : DQ} (hi : ρ[i]? = some (some (.ref p))) (hN : NN S p M) (hn : (M.map (·.1)).Nodup) (x0 : Ext S0 S) (hw : NewS S0 p M) (hl : M.length < sizeLine)
    (hk : EI [] tk ρ S k) (hc : ∀ S1, Ext S S1 ∨ (∃ p1 S2, Ext S S2 ∧ S p1 = none ∧ S2 p1 ≠ none ∧ S1 = up1 S2 p (Ky.cell none (encT (M ++ [(k, p1, ([] : Inn))])))) → EN (dct Int (v Bool)) [] [] tc ρ S1 b)
    (hb : ∀ m ∈ M, m.2.2.length + b.length ≤ sizeLine) (hb0 : b.length ≤ sizeLine)
    (q : ∀ p1 S', NN S' p (nput M k p1 b) → Ext S0 S' → NewS S0 p (nput M k p1 b) → Q .non S') : dUpd (dSetd (dVar i) tk dNewD) tc ρ S Q := by
  have hp : S p ≠ none := by rw [hN.at_]; exact fun z => nomatch z
  refine ⟨_, hi, p, rfl, .inl ⟨none, _, hN.at_⟩, hk S (St.refl _ _) _ fun d S1 k1 r => ?_⟩
  cases r
  have x1 : Ext S S1 := St.nil k1
  refine .inl fun p1 n1 => ?_
  have x2 : Ext S (up1 S1 p1 (.dK none [])) := x1.trans (Ext.new n1)
  have hN2 := hN.ext x2
  have np1 : S p1 = none := by
    cases e1 : S p1 with
    | none => rfl
    | some c => rw [x1 _ _ e1] at n1; cases n1
  refine ⟨_, .inl k, hN2.at_, rfl, by rw [List.length_map]; unfold encT; rw [List.length_map]; exact hl, ?_, ?_⟩
  · intro d hd
    rw [valD_enc] at hd
    cases hf : M.find? (fun m => decide (m.1 = k)) with
    | none => rw [hf] at hd; cases hd
    | some m =>
      rw [hf] at hd
      cases hd
      have hm : m ∈ M := List.mem_of_find?_eq_some hf
      have hmk : m.1 = k := by
        have h9 := List.find?_some hf
        exact of_decide_eq_true h9
      refine ⟨m.2.1, rfl, .inl ⟨none, _, hN2.inn m hm⟩, ?_⟩
      refine hc _ (.inl x2) _ (St.refl _ _) _ fun d S3 k3 r f => ?_
      obtain ⟨p2, rfl, n2⟩ := f
      obtain ⟨p2', ds, e2, hp2, _, _, a2⟩ := dct_at r
      cases e2
      have x3 : Ext S S3 := x2.trans (St.nil k3)
      have hN3 := hN.ext x3
      have hds : ds = encI b := encI_of a2
      subst hds
      have ne : m.2.1 ≠ p2 := fun z => by
        have := hN2.inn m hm
        rw [z, n2] at this; cases this
      refine ⟨p2, _, _, rfl, ne, hN3.inn m hm, hp2, ?_, ?_⟩
      · rw [List.length_map, List.length_map]; unfold encI; rw [List.length_map, List.length_map]
        exact hb m hm
      rw [mg_cell]
      have hpm : p ≠ m.2.1 := fun z => by
        have := (List.nodup_cons.mp hN.nd).1
        exact this (by rw [z]; exact List.mem_map.mpr ⟨m, hm, rfl⟩)
      have hany : (M.any fun m => decide (m.1 = k)) = true := List.any_eq_true.mpr ⟨m, hm, decide_eq_true hmk⟩
      have eM : nput M k p b = M.map (fun m => if m.1 = k then (m.1, m.2.1, dupd m.2.2 b) else m) := if_pos hany
      have mem' : ∀ m' ∈ nput M k p b, ∃ m0 ∈ M, m'.2.1 = m0.2.1 ∧ m'.1 = m0.1 ∧ m'.2.2 = if m0.1 = k then dupd m0.2.2 b else m0.2.2 := by
        intro m' h'
        rw [eM] at h'
        obtain ⟨m0, h0, rfl⟩ := List.mem_map.mp h'
        refine ⟨m0, h0, ?_⟩
        split <;> exact ⟨rfl, rfl, rfl⟩
      refine q p _ ⟨?_, ?_, ?_⟩ ?_ ⟨hw.1, ?_⟩
      · rw [up1_ne hpm, hN3.at_, eM]
        congr 1
        congr 1
        unfold encT
        rw [List.map_map]
        refine List.map_congr_left fun m0 _ => ?_
        show (m0.1, D.ref m0.2.1) = ((if m0.1 = k then (m0.1, m0.2.1, dupd m0.2.2 b) else m0).1, D.ref (if m0.1 = k then (m0.1, m0.2.1, dupd m0.2.2 b) else m0).2.1)
        split <;> rfl
      · have : (nput M k p b).map (·.2.1) = M.map (·.2.1) := by
          rw [eM, List.map_map]
          refine List.map_congr_left fun m0 _ => ?_
          show (if m0.1 = k then (m0.1, m0.2.1, dupd m0.2.2 b) else m0).2.1 = m0.2.1
          split <;> rfl
        rw [this]; exact hN.nd
      · intro m' h'
        obtain ⟨m0, h0, e1, _, e3⟩ := mem' m' h'
        rw [e1, e3]
        by_cases c : m0.1 = k
        · have : m0 = m := by
            exact key_uniq (fun m : Tri => m.1) hn m0 h0 m hm (c.trans hmk.symm)
          subst this
          rw [if_pos c]
          exact up1_same
        · rw [if_neg c]
          have : m0.2.1 ≠ m.2.1 := fun z => by
            have := key_uniq (fun m : Tri => m.2.1) (List.nodup_cons.mp hN.nd).2 m0 h0 m hm z
            exact c (by rw [this]; exact hmk)
          rw [up1_ne this]
          exact hN3.inn m0 h0
      · intro a c h
        have : a ≠ m.2.1 := fun z => by
          have := hw.2 m hm
          rw [← z, h] at this; cases this
        rw [up1_ne this]
        exact x3 _ _ (x0 _ _ h)
      · intro m' h'
        obtain ⟨m0, h0, e1, _, _⟩ := mem' m' h'
        rw [e1]; exact hw.2 m0 h0
  · intro hd
    rw [valD_enc] at hd
    have hf : M.find? (fun m => decide (m.1 = k)) = none := by
      cases hf : M.find? (fun m => decide (m.1 = k)) with
      | none => rfl
      | some m => rw [hf] at hd; cases hd
    have hany : ¬ (M.any fun m => decide (m.1 = k)) = true := fun z => by
      obtain ⟨m, hm, hk⟩ := find_of z
      rw [List.find?_eq_none] at hf
      exact hf m hm (decide_eq_true hk)
    have p1p : p ≠ p1 := fun z => hp (by rw [z]; exact np1)
    have cellE : (Cell.dK none (DL.putD ((encT M).map fun p => ((Sum.inl p.1 : L2.Key), p.2)) (Sum.inl k) (D.ref p1))) = Ky.cell none (encT (M ++ [(k, p1, ([] : Inn))])) := by
      rw [putD_inj (fun i : Int => (Sum.inl i : L2.Key)) (fun _ _ z => by cases z; rfl)]
      show Cell.dK none _ = Cell.dK none _
      congr 2
      unfold DL.putD encT
      rw [List.any_map]
      have e0 : ((fun kv : Int × D => decide (kv.1 = k)) ∘ fun m : Tri => ((m.1, D.ref m.2.1) : Int × D)) = fun m : Tri => decide (m.1 = k) := rfl
      rw [e0, if_neg hany, List.map_append]; rfl
    rw [cellE]
    have h4 : ∀ {a c}, S0 a = some c → up1 (up1 S1 p1 (.dK none [])) p (Ky.cell none (encT (M ++ [(k, p1, ([] : Inn))]))) a = some c := fun {a c} h => by
      have : a ≠ p := fun z => by have := hw.1; rw [← z, h] at this; cases this
      rw [up1_ne this]
      exact x2 _ _ (x0 _ _ h)
    refine ⟨p1, rfl, .inl ⟨none, [], ?_⟩, ?_⟩
    · rw [up1_ne (Ne.symm p1p)]; exact up1_same
    refine hc _ (.inr ⟨p1, _, x2, np1, by rw [up1_same]; exact (fun z => nomatch z), rfl⟩) _ (St.refl _ _) _ fun d S3 k3 r f => ?_
    obtain ⟨p2, rfl, n2⟩ := f
    obtain ⟨p2', ds, e2, hp2, _, _, a2⟩ := dct_at r
    cases e2
    have hds : ds = encI b := encI_of a2
    subst hds
    have x3 := St.nil k3
    have at1 : S3 p1 = some (Ky.cell none (encI ([] : Inn))) := x3 _ _ (by rw [up1_ne (Ne.symm p1p)]; exact up1_same)
    have ne : p1 ≠ p2 := fun z => by
      rw [← z, up1_ne (Ne.symm p1p), up1_same] at n2
      cases n2
    refine ⟨p2, _, _, rfl, ne, at1, hp2, ?_, ?_⟩
    · unfold encI; rw [List.length_map, List.length_map, List.length_map, List.length_map]; show 0 + _ ≤ _; omega
    rw [mg_cell]
    have eM : nput M k p1 b = M ++ [(k, p1, dupd [] b)] := if_neg hany
    have m1 : ∀ m ∈ M, m.2.1 ≠ p1 := fun m hm z => by
      have := hN.inn m hm
      rw [z, np1] at this; cases this
    refine q p1 _ ⟨?_, ?_, ?_⟩ ?_ ⟨hw.1, ?_⟩
    · rw [up1_ne p1p, x3 _ _ up1_same, eM]
      congr 2
      unfold encT
      rw [List.map_append, List.map_append]; rfl
    · rw [eM, List.map_append]
      obtain ⟨g1, g2⟩ := List.nodup_cons.mp hN.nd
      refine List.nodup_cons.mpr ⟨fun z => ?_, List.nodup_append.mpr ⟨g2, by simp, fun a ha c hc z => ?_⟩⟩
      · rcases List.mem_append.mp z with z | z
        · exact g1 z
        · exact p1p (by simpa using z)
      · obtain ⟨m, hm, rfl⟩ := List.mem_map.mp ha
        exact m1 m hm (by rw [z]; simpa using hc)
    · intro m' h'
      rw [eM] at h'
      rcases List.mem_append.mp h' with h' | h'
      · rw [up1_ne (m1 m' h')]
        refine x3 _ _ ?_
        have : m'.2.1 ≠ p := fun z => (List.nodup_cons.mp hN.nd).1 (by rw [← z]; exact List.mem_map.mpr ⟨m', h', rfl⟩)
        rw [up1_ne this]
        exact hN2.inn m' h'
      · rw [List.mem_singleton] at h'
        subst h'
        exact up1_same
    · intro a c h
      have : a ≠ p1 := fun z => by
        rw [z] at h
        rw [x0 _ _ h] at np1; cases np1
      rw [up1_ne this]
      exact x3 _ _ (h4 h)
    · intro m' h'
      rw [eM] at h'
      rcases List.mem_append.mp h' with h' | h'
      · exact hw.2 m' h'
      · rw [List.mem_singleton] at h'
        subst h'
        show S0 p1 = none
        cases e1 : S0 p1 with
        | none => rfl
        | some c => rw [x0 _ _ e1] at np1; cases np1
structure Good (a s : Int) (T : List (Int × Inn)) : Prop where
  nd : (T.map (·.1)).Nodup
  in_ : ∀ q ∈ T, 0 ≤ q.1 ∧ q.1 ≤ a ∧ (q.2.map (·.1)).Nodup ∧ ∀ j ∈ q.2.map (·.1), 0 ≤ j ∧ j ≤ s
theorem nodup_len {n : Int} : ∀ {l : List Int}, l.Nodup → (∀ k ∈ l, 0 ≤ k ∧ k ≤ n) → l.length ≤ (n + 1).toNat := fun {l} h hk => by
  have := nodup_few (us := rngI 0 (n + 1)) h fun k m => by
    have := hk k m
    exact mem_rng0.mpr ⟨this.1, by omega⟩
  rw [len_rng] at this
  omega
theorem Good.len {a s : Int} {T : List (Int × Inn)} (h : Good a s T) (ha : 0 ≤ a) : T.length ≤ (a + 1).toNat := by
  have := nodup_len h.nd (n := a) fun k hk => by
    obtain ⟨q, hq, rfl⟩ := List.mem_map.mp hk
    exact ⟨(h.in_ q hq).1, (h.in_ q hq).2.1⟩
  rw [List.length_map] at this
  exact this
section
variable {S0 : Sto} {pl : Addr} {dc dr df : D} {amount value many here few : Int} {counts : Inn} {dcn : D} {a s : Int} {N : DEnds}
end
end Gp
set_option Elab.async false
set_option linter.all false
set_option maxRecDepth 100000
set_option maxHeartbeats 4000000
namespace Ga
open PySem DL L2 TY
open En (e)
end Ga
set_option Elab.async false
set_option linter.all false
set_option maxRecDepth 100000
set_option maxHeartbeats 4000000
namespace Pb
open PySem DL L2 TY Wa Wb Pa
def enc (p : Int × Nat) : Int × Int := (p.1, (p.2 : Int))
def cIn (v x : Int) (n : Nat) (L : List (Int × Nat)) : Nat → List (Int × Nat)
  | 0 => L
  | j + 1 => add1 (cIn v x n L j) (x + (j : Int) * v) n
end Pb
set_option Elab.async false
set_option linter.all false
set_option maxRecDepth 100000
set_option maxHeartbeats 4000000
namespace Pi
open PySem DL L2 TY Pa Pb Wa Wb
open En (e)
def nT (v : Int) (j : Nat) : List (Int × Nat) → List (Int × Nat) → List (Int × Nat)
  | [], L => L
  | p :: r, L => nT v j r (cIn v p.1 p.2 L j)
end Pi
set_option Elab.async false
set_option linter.all false
set_option maxRecDepth 100000
set_option maxHeartbeats 4000000
namespace Gl
open PySem DL L2 TY
open En (e)
open Pa Pb Wa Wb Pi
end Gl
set_option Elab.async false
set_option linter.all false
set_option maxRecDepth 100000
set_option maxHeartbeats 4000000
namespace Gc
open PySem DL L2 TY
open En (e)
open Pa Pb Wa Wb
end Gc
set_option Elab.async false
set_option linter.all false
set_option maxRecDepth 100000
set_option maxHeartbeats 4000000
namespace Gb
open PySem DL L2 TY
open En (e)
open Pa Pb Wa Cf
end Gb
set_option Elab.async false
set_option linter.all false
set_option maxRecDepth 100000
set_option maxHeartbeats 4000000
namespace Gd
open PySem DL L2 TY
open En (e)
open Pa
theorem a2len {α β : Type} {R : α → β → Prop} : ∀ {xs : List α} {ys : List β}, All2 R xs ys → ys.length = xs.length
  | _, _, .nil => rfl
  | _, _, .cons _ t => congrArg (· + 1) (a2len t)
theorem wMap_all {α β : Type} {f : α → (β → Prop) → Prop} (P : α → β → Prop) : ∀ {xs : List α} {K : List β → Prop}, (∀ x ∈ xs, ∀ k : β → Prop, (∀ y, P x y → k y) → f x k) → (∀ ys, All2 P xs ys → K ys) → wMap xs f K
  | [], _, _, h => h [] .nil
  | x :: r, K, hf, h => hf x (by simp) _ fun y hy => wMap_all P (fun z hz => hf z (List.mem_cons_of_mem _ hz)) fun ys hys => h _ (.cons hy hys)
end Gd
set_option Elab.async false
set_option linter.all false
set_option maxRecDepth 100000
set_option maxHeartbeats 4000000
namespace Gh
open PySem DL L2 TY
open En (e)
open Pa
def d__law_coinage_1 (EP : Exc → Sto → Prop) : DS :=
  (dRet (dTup (dCons (dCall dTuple1 (dCons (dVar 5) dNil)) (dCons (dCall dTuple1 (dCons (dLc (iAny (dVar 5)) (gSet 6) dYes (dFn Cb.sp__law_take xNo (dCons (dVar 0) (dCons (dOp dAdd (dVar 3) (dC (.int 1))) dNil))) [6]) dNil)) dNil))))
def d__law_coinage_2 (EP : Exc → Sto → Prop) : DS :=
  (dSeq (dIfS (dOrT (dB (dOp dEq (dFn Cb.sp__law_take (xF EP) (dCons (dVar 0) (dCons (dC (.int 2)) dNil))) (dC (.int 0)))) (dB (dOp (dCmpI (fun i j => decide (i < j))) (dCall dLenA (dCons (dVar 5) dNil)) (dVar 1)))) (dAsg (dCall dSortA (dCons (dSl dSlc (dFn Cc.sp__law_mixed (xF EP) (dCons (dVar 0) (dCons (dLrg (dRg2 (dC (.int 1)) (dOp dAdd (dVar 2) (dC (.int 1))))) dNil))) dNoPart (dPart (dVar 1))) dNil)) (gSet 5)) dNext)
  (d__law_coinage_1 EP))
def d__law_coinage_3 (EP : Exc → Sto → Prop) : DS :=
  (dSeq (dAsg (dCall dSortA (dCons (dSl dSlc (dVar 4) dNoPart (dPart (dVar 1))) dNil)) (gSet 5))
  (d__law_coinage_2 EP))
def d__law_coinage (EP : Exc → Sto → Prop) : DS :=
  (dSeq (dAsg (dFn Cc.sp__law_some (xF EP) (dCons (dVar 0) (dCons (dLst (dCons (dLst (dCons (dC (.int 1)) (dCons (dC (.int 2)) (dCons (dC (.int 5)) (dCons (dC (.int 10)) dNil))))) (dCons (dLst (dCons (dC (.int 5)) (dCons (dC (.int 10)) (dCons (dC (.int 25)) (dCons (dC (.int 100)) dNil))))) (dCons (dLst (dCons (dC (.int 1)) (dCons (dC (.int 3)) (dCons (dC (.int 4)) dNil)))) (dCons (dLst (dCons (dC (.int 2)) (dCons (dC (.int 3)) (dCons (dC (.int 7)) dNil)))) (dCons (dLst (dCons (dC (.int 1)) (dCons (dC (.int 5)) (dCons (dC (.int 10)) (dCons (dC (.int 50)) dNil))))) (dCons (dLst (dCons (dC (.int 3)) (dCons (dC (.int 6)) (dCons (dC (.int 12)) (dCons (dC (.int 24)) dNil))))) dNil))))))) dNil))) (gSet 4))
  (d__law_coinage_3 EP))
def W__law_coinage (kinds : Int) (greatest : Int) (cap : Int) (K : ((List Int) × (List Int)) → Prop) (E : Exc → Prop) : Prop :=
  (((((((1 : Int) :: ((2 : Int) :: ((5 : Int) :: ((10 : Int) :: [])))) : (List Int)) :: ((((5 : Int) :: ((10 : Int) :: ((25 : Int) :: ((100 : Int) :: [])))) : (List Int)) :: ((((1 : Int) :: ((3 : Int) :: ((4 : Int) :: []))) : (List Int)) :: ((((2 : Int) :: ((3 : Int) :: ((7 : Int) :: []))) : (List Int)) :: ((((1 : Int) :: ((5 : Int) :: ((10 : Int) :: ((50 : Int) :: [])))) : (List Int)) :: ((((3 : Int) :: ((6 : Int) :: ((12 : Int) :: ((24 : Int) :: [])))) : (List Int)) :: [])))))) : (List (List Int))) ≠ [] ∧ ((((((1 : Int) :: ((2 : Int) :: ((5 : Int) :: ((10 : Int) :: [])))) : (List Int)) :: ((((5 : Int) :: ((10 : Int) :: ((25 : Int) :: ((100 : Int) :: [])))) : (List Int)) :: ((((1 : Int) :: ((3 : Int) :: ((4 : Int) :: []))) : (List Int)) :: ((((2 : Int) :: ((3 : Int) :: ((7 : Int) :: []))) : (List Int)) :: ((((1 : Int) :: ((5 : Int) :: ((10 : Int) :: ((50 : Int) :: [])))) : (List Int)) :: ((((3 : Int) :: ((6 : Int) :: ((12 : Int) :: ((24 : Int) :: [])))) : (List Int)) :: [])))))) : (List (List Int)))).length ≤ 1000000000000) ∧ wDraw (fun v_28 : (List Int) => v_28 ∈ ((((((1 : Int) :: ((2 : Int) :: ((5 : Int) :: ((10 : Int) :: [])))) : (List Int)) :: ((((5 : Int) :: ((10 : Int) :: ((25 : Int) :: ((100 : Int) :: [])))) : (List Int)) :: ((((1 : Int) :: ((3 : Int) :: ((4 : Int) :: []))) : (List Int)) :: ((((2 : Int) :: ((3 : Int) :: ((7 : Int) :: []))) : (List Int)) :: ((((1 : Int) :: ((5 : Int) :: ((10 : Int) :: ((50 : Int) :: [])))) : (List Int)) :: ((((3 : Int) :: ((6 : Int) :: ((12 : Int) :: ((24 : Int) :: [])))) : (List Int)) :: [])))))) : (List (List Int))) : List (List Int))) (fun v_28 : (List Int) => wAp (fun usual_1 : (List Int) => (((sl usual_1 none (some kinds))).length ≤ sizeLine ∧ ∀ z ∈ (sl usual_1 none (some kinds)), EnO.so z) ∧ wAp (fun values_2 : (List Int) => wJoin (fun s_5 : (List Int) => ((s_5).length ≤ sizeLine ∧ wMap s_5 (fun value_11 : Int => fun k_16 : Int → Prop => ((0 < (cap + (1 : Int)) ∧ (cap + (1 : Int)) ≤ 1000000000000) ∧ wDraw (fun v_17 : Int => 0 ≤ v_17 ∧ v_17 < (cap + (1 : Int))) (fun v_17 : Int => k_16 v_17))) (fun ys_15 : (List Int) => wAp K (s_5, ys_15)))) (fun k_j_4 => wJoin (fun b_25 : Bool => wIf b_25 (RgOk (1 : Int) (greatest + (1 : Int)) ∧ (((rngI (1 : Int) (greatest + (1 : Int)))).length ≤ 1000000 ∧ wDraw (fun v_22 : (List Int) => v_22.Perm (rngI (1 : Int) (greatest + (1 : Int)))) (fun v_22 : (List Int) => (True ∧ ((((sl v_22 none (some kinds))).length ≤ sizeLine ∧ ∀ z ∈ (sl v_22 none (some kinds)), EnO.so z) ∧ wAp (fun values_19 : (List Int) => k_j_4 values_19) (sortE (sl v_22 none (some kinds)))))))) (k_j_4 values_2)) (fun kd_24 : Bool → Prop => ((0 < (2 : Int) ∧ (2 : Int) ≤ 1000000000000) ∧ wDraw (fun v_26 : Int => 0 ≤ v_26 ∧ v_26 < (2 : Int)) (fun v_26 : Int => wIf (decide (v_26 = (0 : Int))) (kd_24 true) (kd_24 (decide (((values_2).length : Int) < kinds)))))))) (sortE (sl usual_1 none (some kinds)))) v_28))
def sp__law_coinage : FSp := spB (RepL.cons (v Int) (RepL.cons (v Int) (RepL.cons (v Int) RepL.nil))) (v ((List Int) × (List Int))) (fun x K E => W__law_coinage x.1 x.2.1 x.2.2.1 K E)
theorem len__law_coinage : ∀ ds S P EP, sp__law_coinage ds S P EP → ds.length = 4 := by
  rintro _ S P EP ⟨b, c, O, x, _, rfl, _, hc, ⟨_, _, rfl, _, ⟨_, _, rfl, _, ⟨_, _, rfl, _, rfl⟩⟩⟩, _⟩
  rfl
theorem pure__law_coinage : ∀ ds S Q EP, sp__law_coinage ds S Q EP → d__law_coinage EP { nx := fun _ S' => Q .non S', rt := Q } (startD 7 ds) S := by
  rintro _ S0 Q EP ⟨b_, cb_, O, ⟨kinds, greatest, cap, _⟩, _, rfl, hb_, hc, ⟨_, _, rfl, rfl, ⟨_, _, rfl, rfl, ⟨_, _, rfl, rfl, rfl⟩⟩⟩, h⟩
  have hc0 : Cx [b_] [] S0 := Cx.bag hb_
  have k0 := St.refl [b_] S0
  have hBR := BR.top hc0
  change W__law_coinage kinds greatest cap _ _ at h
  show (_ : DS) _ [some (.ref b_), some (e (kinds : Int)), some (e (greatest : Int)), some (e (cap : Int)), none, none, none] _
  unfold d__law_coinage
  unfold W__law_coinage at h
  skip
  refine seq_i (sw_asg (B := [b_]) (ew_some (i := 0) hc rfl (ews_p (es_lst (EN.ed (en_lst hc (er_cons (EN.ed (en_lst hc (er_cons (ED.o (ei_c (1 : Int) rfl)) (er_cons (ED.o (ei_c (2 : Int) rfl)) (er_cons (ED.o (ei_c (5 : Int) rfl)) (er_cons (ED.o (ei_c (10 : Int) rfl)) er_nil)))) (szl (by decide : 4 ≤ 1000)))) (er_cons (EN.ed (en_lst hc (er_cons (ED.o (ei_c (5 : Int) rfl)) (er_cons (ED.o (ei_c (10 : Int) rfl)) (er_cons (ED.o (ei_c (25 : Int) rfl)) (er_cons (ED.o (ei_c (100 : Int) rfl)) er_nil)))) (szl (by decide : 4 ≤ 1000)))) (er_cons (EN.ed (en_lst hc (er_cons (ED.o (ei_c (1 : Int) rfl)) (er_cons (ED.o (ei_c (3 : Int) rfl)) (er_cons (ED.o (ei_c (4 : Int) rfl)) er_nil))) (szl (by decide : 3 ≤ 1000)))) (er_cons (EN.ed (en_lst hc (er_cons (ED.o (ei_c (2 : Int) rfl)) (er_cons (ED.o (ei_c (3 : Int) rfl)) (er_cons (ED.o (ei_c (7 : Int) rfl)) er_nil))) (szl (by decide : 3 ≤ 1000)))) (er_cons (EN.ed (en_lst hc (er_cons (ED.o (ei_c (1 : Int) rfl)) (er_cons (ED.o (ei_c (5 : Int) rfl)) (er_cons (ED.o (ei_c (10 : Int) rfl)) (er_cons (ED.o (ei_c (50 : Int) rfl)) er_nil)))) (szl (by decide : 4 ≤ 1000)))) (er_cons (EN.ed (en_lst hc (er_cons (ED.o (ei_c (3 : Int) rfl)) (er_cons (ED.o (ei_c (6 : Int) rfl)) (er_cons (ED.o (ei_c (12 : Int) rfl)) (er_cons (ED.o (ei_c (24 : Int) rfl)) er_nil)))) (szl (by decide : 4 ≤ 1000)))) er_nil)))))) (szl (by decide : 6 ≤ 1000))))))) h fun usual_1 d_usual_1 S1 k1 r_usual_1 h => ?_)
  have k0 := hBR.st k0 k1
  have hc := hc.st k1
  show (_ : DS) _ [some (.ref b_), some (e (kinds : Int)), some (e (greatest : Int)), some (e (cap : Int)), some d_usual_1, none, none] _
  unfold d__law_coinage_3
  obtain ⟨o_3, h⟩ := h
  refine seq_i (st_asgC (B := [b_]) (EN.ed (en_sortA hc (EN.ed (en_sl hc (ed_var (i := 4) usual_1 rfl r_usual_1) ep_no (ep_some (ei_var (i := 1) kinds rfl)))) o_3)) h fun values_2 d_values_2 S1 k1 r_values_2 h => ?_)
  have r_usual_1 := Rep.mono _ (ct_st k1) r_usual_1
  have k0 := hBR.st k0 k1
  have hc := hc.st k1
  show (_ : DS) _ [some (.ref b_), some (e (kinds : Int)), some (e (greatest : Int)), some (e (cap : Int)), some d_usual_1, some d_values_2, none] _
  unfold d__law_coinage_2
  try dsimp only
  refine seq_join (fun (s_5 : (List Int)) (ρ_ : Nv) (S_ : Sto) => ∃ (d_6 : D) , ρ_ = [some (.ref b_), some (e (kinds : Int)), some (e (greatest : Int)), some (e (cap : Int)), some d_usual_1, some d_6, none] ∧ (St [b_] S0) S_ ∧ Cx [b_] (O) S_ ∧ (lst (v Int)).r (ct [b_] (O) S_) usual_1 d_usual_1 ∧ (lst (v Int)).r (ct [b_] (O) S_) s_5 d_6) h (fun s_5 ρ_ S1 h a_ => ?_) (fun k_j_4 h kk_ => ?_)
  · obtain ⟨d_6, rfl, k0, hc, r_usual_1, rd_6⟩ := a_
    show (_ : DS) _ [some (.ref b_), some (e (kinds : Int)), some (e (greatest : Int)), some (e (cap : Int)), some d_usual_1, some d_6, none] _
    unfold d__law_coinage_1
    try (unfold dNext; dsimp only)
    refine (sw_ret (B := [b_]) (ew_pr2 (EW.pure (ED.o (O' := O) (ei_tuple (es_lst (ed_var (i := 5) s_5 rfl rd_6))))) (ew_tuple (EW.unfr (ew_lcw (R := (v Int)) (fun value_11 : Int => fun k_13 : Int → Prop => ((0 < (cap + (1 : Int)) ∧ (cap + (1 : Int)) ≤ 1000000000000) ∧ wDraw (fun v_14 : Int => 0 ≤ v_14 ∧ v_14 < (cap + (1 : Int))) (fun v_14 : Int => k_13 v_14))) hc (EWI.pure (it_any (es_lst (ed_var (i := 5) s_5 rfl rd_6)))) (by intro x K K' k z; repeat (first | exact k _ z | (refine And.intro (And.left z) ?_; replace z := And.right z) | (refine fun v hv => ?_; replace z := z v hv) | (refine wMap_mono ?_ _ ?_ z) | (refine wIf_mo (fun z => ?_) (fun z => ?_) z) | (refine wRes_mono ?_ z; clear z; intro v z))) (fun value_11 d_8 S_10 k_7 r_9 => by cases r_9; exact ⟨[some (.ref b_), some (e (kinds : Int)), some (e (greatest : Int)), some (e (cap : Int)), some d_usual_1, some d_6, some (e (value_11 : Int))], _, eg_set, (ew_take (i := 0) (Cx.st hc k_7) rfl (EW.pure (ED.o (O' := O) (ei_add (ei_var (i := 3) cap rfl) (ei_c (1 : Int) rfl))))), rfl⟩))))) h fun v d S1 k1 r h => h d S1 (k0.trans k1) r)
  · have h := wJoin_o h
    refine sw_if (B := [b_]) (ewb_or (ewb_b (ew_eq (ew_take (i := 0) hc rfl (EW.pure (ED.o (O' := O) (ei_c (2 : Int) rfl)))) (EW.pure (ED.o (O' := O) (ei_c (0 : Int) rfl))))) (EWB.pure (eb_b (ei_lt (ei_lenA (es_lst (ed_var (i := 5) values_2 rfl r_values_2))) (ei_var (i := 1) kinds rfl))))) h (fun S1 k1 h => ?_) (fun S1 k1 h => ?_)
    · have r_usual_1 := Rep.mono _ (ct_st k1) r_usual_1
      have r_values_2 := Rep.mono _ (ct_st k1) r_values_2
      have k0 := hBR.st k0 k1
      have hc := hc.st k1
      obtain ⟨o_20, h⟩ := h
      skip
      refine sw_asg (B := [b_]) (EW.unfr (ew_sort hc (EW.unfr (ew_slL hc (EW.unfr (ew_mixed (i := 0) hc rfl (ews_p (es_lst (EN.ed (en_lrg2 hc (ei_c (1 : Int) rfl) (ei_add (ei_var (i := 2) greatest rfl) (ei_c (1 : Int) rfl)) o_20)))))) ep_no (ep_some (ei_var (i := 1) kinds rfl)))))) h fun values_19 d_values_19 S1 k1 r_values_19 h => ?_
      have r_usual_1 := Rep.mono _ (ct_st k1) r_usual_1
      have k0 := hBR.st k0 k1
      have hc := hc.st k1
      exact kk_ values_19 _ _ h ⟨d_values_19, rfl, k0, hc, r_usual_1, r_values_19⟩
    · have r_usual_1 := Rep.mono _ (ct_st k1) r_usual_1
      have r_values_2 := Rep.mono _ (ct_st k1) r_values_2
      have k0 := hBR.st k0 k1
      have hc := hc.st k1
      exact kk_ values_2 _ _ h ⟨d_values_2, rfl, k0, hc, r_usual_1, r_values_2⟩
def usuals : List (List Int) := [[1, 2, 5, 10], [5, 10, 25, 100], [1, 3, 4], [2, 3, 7], [1, 5, 10, 50], [3, 6, 12, 24]]
structure P__law_coinage (kinds greatest cap : Int) (x : List Int × List Int) : Prop where
  lv : (x.1.length : Int) = kinds
  lc : (x.2.length : Int) = kinds
  up : x.1.Pairwise (· < ·)
  vals : (∀ v ∈ x.1, 1 ≤ v ∧ v ≤ greatest) ∨ x.1 ∈ usuals.map fun u => u.take kinds.toNat
  cap : ∀ c ∈ x.2, 0 ≤ c ∧ c ≤ cap
structure ok__law_coinage (kinds greatest cap : Int) : Prop where
  k1 : 1 ≤ kinds
  kg : kinds ≤ greatest
  g1 : greatest ≤ 100000
  c0 : 0 ≤ cap
  c1 : cap ≤ 100000000
theorem sortE_up {xs : List Int} (h : xs.Nodup) : (sortE xs).Pairwise (· < ·) := by
  have h1 : (sortE xs).Pairwise fun a b => (!EnO.lt b a) = true := List.pairwise_mergeSort (fun a b c h1 h2 => ?_) (fun a b => ?_) xs
  · have h2 : (sortE xs).Nodup := (List.mergeSort_perm _ _).nodup_iff.mpr h
    refine (h1.and h2).imp fun {a b} ⟨p, q⟩ => ?_
    have p : (!decide (b < a)) = true := p
    simp only [Bool.not_eq_true', decide_eq_false_iff_not] at p
    have q : a ≠ b := q
    omega
  · have h1 : (!decide (b < a)) = true := h1
    have h2 : (!decide (c < b)) = true := h2
    show (!decide (c < a)) = true
    simp only [Bool.not_eq_true', decide_eq_false_iff_not] at *
    omega
  · show ((!decide (b < a)) || (!decide (a < b))) = true
    simp; omega
theorem usual_up : ∀ u ∈ usuals, u.Pairwise (· < ·) ∧ u.length ≤ 4 ∧ ∀ v ∈ u, 1 ≤ v ∧ v ≤ 100 := by decide
theorem rng_nodup (a b : Int) : (rngI a b).Nodup := by
  unfold rngI
  rw [List.nodup_iff_pairwise_ne, List.pairwise_map]
  exact List.pairwise_lt_range.imp fun h e => by omega
theorem w__law_coinage {kinds greatest cap : Int} (o : ok__law_coinage kinds greatest cap) {K : List Int × List Int → Prop} {E : Exc → Prop} (h : ∀ x, P__law_coinage kinds greatest cap x → K x) : W__law_coinage kinds greatest cap K E := by
  have hk := o.k1
  have hg := o.kg
  have hg1 := o.g1
  have hc0 := o.c0
  have hc1 := o.c1
  unfold W__law_coinage
  refine ⟨⟨by simp, by simp⟩, fun u hu => ?_⟩
  have hu' : u ∈ usuals := hu
  obtain ⟨u1, u2, u3⟩ := usual_up u hu'
  have hsl : sl u none (some kinds) = u.take kinds.toNat := sl_to (by omega)
  have hs1 : (u.take kinds.toNat).Pairwise (· < ·) := u1.sublist (List.take_sublist _ _)
  have hs2 : (u.take kinds.toNat).length ≤ 4 := Nat.le_trans (List.length_take_le' _ _) u2
  show wAp _ u
  rw [wAp, hsl]
  refine ⟨⟨line (by omega), fun z _ => trivial⟩, ?_⟩
  rw [sortE_ints (hs1.imp fun h => Int.le_of_lt h), wAp]
  -- what is done with the values
  have fin : ∀ s : List Int, (s.length : Int) = kinds → s.Pairwise (· < ·) → ((∀ v ∈ s, 1 ≤ v ∧ v ≤ greatest) ∨ s ∈ usuals.map fun u => u.take kinds.toNat) → (s.length ≤ sizeLine ∧ wMap s (fun (_ : Int) (k : Int → Prop) => ((0 < (cap + (1 : Int)) ∧ (cap + (1 : Int)) ≤ 1000000000000) ∧ wDraw (fun v : Int => 0 ≤ v ∧ v < (cap + (1 : Int))) (fun v : Int => k v))) (fun ys : List Int => wAp K (s, ys))) := fun s h1 h2 h3 =>
    ⟨line (by omega), Gd.wMap_all (fun _ y => 0 ≤ y ∧ y ≤ cap) (fun x _ k hk => ⟨⟨by omega, by omega⟩, fun y hy => hk y ⟨hy.1, by omega⟩⟩) fun ys hys => h _ ⟨h1, by rw [← h1]; exact congrArg _ (Gd.a2len hys), h2, h3, fun c hc => by
      clear h1 h2 h3
      induction hys with
      | nil => cases hc
      | cons a b ih =>
        rcases List.mem_cons.mp hc with e1 | hc
        · subst e1; exact a
        · exact ih hc⟩⟩
  show (_ ∧ _)
  refine ⟨by decide, fun t ht => ?_⟩
  -- drawn anew
  have anew : RgOk (1 : Int) (greatest + (1 : Int)) ∧ ((rngI (1 : Int) (greatest + (1 : Int))).length ≤ 1000000 ∧ wDraw (fun v : List Int => v.Perm (rngI (1 : Int) (greatest + (1 : Int)))) (fun v : List Int => (True ∧ (((sl v none (some kinds)).length ≤ sizeLine ∧ ∀ z ∈ sl v none (some kinds), EnO.so z) ∧ wAp (fun values : List Int => (values.length ≤ sizeLine ∧ wMap values (fun (_ : Int) (k : Int → Prop) => ((0 < (cap + (1 : Int)) ∧ (cap + (1 : Int)) ≤ 1000000000000) ∧ wDraw (fun v : Int => 0 ≤ v ∧ v < (cap + (1 : Int))) (fun v : Int => k v))) (fun ys : List Int => wAp K (values, ys)))) (sortE (sl v none (some kinds))))))) := by
    refine ⟨RgOk.of_le (by omega) (by omega) (by omega) (by omega), by rw [len_rng]; omega, fun v hv => ⟨trivial, ?_⟩⟩
    have hv : v.Perm (rngI 1 (greatest + 1)) := hv
    have hlen : v.length = greatest.toNat := by rw [hv.length_eq, len_rng]; omega
    have hsl2 : sl v none (some kinds) = v.take kinds.toNat := sl_to (by omega)
    rw [hsl2]
    have hl2 : (v.take kinds.toNat).length = kinds.toNat := by rw [List.length_take]; omega
    refine ⟨⟨line (by omega), fun z _ => trivial⟩, ?_⟩
    have hnd : (v.take kinds.toNat).Nodup := (hv.nodup_iff.mpr (rng_nodup _ _)).sublist (List.take_sublist _ _)
    refine fin _ ?_ (sortE_up hnd) (.inl fun x hx => ?_)
    · rw [(sortE_perm _).length_eq, hl2]; omega
    · have := mem_rng.mp (hv.mem_iff.mp (List.mem_of_mem_take (sortE_mem.mp hx)))
      omega
  refine wIf_i (fun _ => ?_) fun _ => ?_
  · exact anew
  · by_cases c : ((u.take kinds.toNat).length : Int) < kinds
    · rw [decide_eq_true c]
      exact anew
    · rw [decide_eq_false c]
      refine fin _ ?_ hs1 (.inr (List.mem_map.mpr ⟨u, hu', rfl⟩))
      have : (u.take kinds.toNat).length ≤ kinds.toNat := List.length_take_le _ _
      omega
end Gh
set_option Elab.async false
set_option linter.all false
set_option maxRecDepth 100000
set_option maxHeartbeats 4000000
namespace Pd
open PySem DL L2 TY Wa Pa
open En (e)
open EnD (dep)
open Cf (box plus)
def Below (xs ys : List Int) : Prop := xs.length = ys.length ∧ ∀ q ∈ xs.zip ys, q.1 ≤ q.2
theorem Below.tail {x y : Int} {xs ys : List Int} (h : Below (x :: xs) (y :: ys)) : x ≤ y ∧ Below xs ys := ⟨h.2 (x, y) (by rw [List.zip_cons_cons]; simp), by simpa using h.1, fun q hq => h.2 q (by rw [List.zip_cons_cons]; exact List.mem_cons_of_mem _ hq)⟩
theorem Fits.up : ∀ {ks ms ns : List Int}, Fits ks ms → Below ms ns → Fits ks ns
  | [], [], [], _, _ => trivial
  | k :: ks, m :: ms, n :: ns, h, b => by
    obtain ⟨b1, b2⟩ := b.tail
    exact ⟨h.1, by have := h.2.1; omega, Fits.up h.2.2 b2⟩
  | [], _ :: _, _, h, _ => h.elim
  | _ :: _, [], _, h, _ => h.elim
  | [], [], _ :: _, _, b => by have := b.1; simp at this
  | _ :: _, _ :: _, [], _, b => by have := b.1; simp at this
theorem Below.plus : ∀ {xs ys : List Int} (r : List Int), Below xs ys → Below (plus xs r) (plus ys r)
  | [], [], _, _ => ⟨rfl, by simp [Cf.plus]⟩
  | x :: xs, y :: ys, [], b => ⟨rfl, by simp [Cf.plus]⟩
  | x :: xs, y :: ys, k :: r, b => by
    obtain ⟨b1, b2⟩ := b.tail
    obtain ⟨h1, h2⟩ := b2.plus r
    refine ⟨by show (Cf.plus xs r).length + 1 = (Cf.plus ys r).length + 1; rw [h1], fun q hq => ?_⟩
    rcases List.mem_cons.mp (show q ∈ (x + k, y + k) :: (Cf.plus xs r).zip (Cf.plus ys r) from hq) with e | hq
    · rw [e]; show x + k ≤ y + k; omega
    · exact h2 q hq
  | [], _ :: _, _, b => by have := b.1; simp at this
  | _ :: _, [], _, b => by have := b.1; simp at this
def minus (xs ys : List Int) : List Int := (xs.zip ys).map fun q => q.1 - q.2
theorem Fits.more : ∀ {ch tubes few paid : List Int}, Fits ch (plus tubes few) → few.length = tubes.length → Below few paid → Fits (plus ch (minus paid few)) (plus tubes paid)
  | [], [], [], [], _, _, _ => trivial
  | k :: ch, t :: tubes, f :: few, p :: paid, h, hl, b => by
    obtain ⟨b1, b2⟩ := b.tail
    obtain ⟨h1, h2, h3⟩ := h
    exact ⟨by show 0 ≤ k + (p - f); omega, by show k + (p - f) ≤ t + p; have h2 : k ≤ t + f := h2; omega, Fits.more h3 (by simpa using hl) b2⟩
  | [], _ :: _, _ :: _, _, h, _, _ => h.elim
  | _ :: _, [], _, _, h, _, _ => h.elim
  | _, _ :: _, [], _, _, hl, _ => by simp at hl
  | _, [], _ :: _, _, _, hl, _ => by simp at hl
  | _, _ , [], _ :: _, _, _, b => by have := b.1; simp at this
  | _, _ , _ :: _, [], _, _, b => by have := b.1; simp at this
end Pd
set_option Elab.async false
set_option linter.all false
set_option maxRecDepth 100000
set_option maxHeartbeats 4000000
namespace Pg
open PySem DL L2 TY Wa Wb Pa Pd
abbrev Bs : Nat := 2048
def poly (B : Nat) : List Nat → List Nat → Nat
  | v :: vs, m :: ms => ((List.range (m + 1)).map fun k => B ^ (v * k)).sum * poly B vs ms
  | _, _ => 1
def cnt (vs ms : List Nat) (n : Nat) : Nat := (ways (vs.map Int.ofNat) (ms.map Int.ofNat) (n : Int)).length
def chk (B : Nat) : Nat → Nat → Bool
  | 0, _ => true
  | w + 1, x => Nat.ble (x % B) 63 && chk B w (x / B)
def lists : Nat → Nat → List (List Nat)
  | 0, _ => [[]]
  | k + 1, s => (List.range (s + 1)).flatMap fun x => (lists k (s - x)).map fun r => x :: r
def subs : Nat → List Nat → List (List Nat)
  | 0, _ => [[]]
  | k + 1, [] => []
  | k + 1, x :: r => ((subs k r).map fun l => x :: l) ++ subs (k + 1) r
def dotN : List Nat → List Nat → Nat
  | v :: vs, k :: ks => v * k + dotN vs ks
  | _, _ => 0
def vals (k : Nat) : List (List Nat) := subs k (List.range' 1 9) ++ ([[1, 2, 5, 10], [5, 10, 25, 100], [1, 3, 4], [2, 3, 7], [1, 5, 10, 50], [3, 6, 12, 24]].map (fun u : List Nat => u.take k)).filter fun u => u.length == k
def okAll (k : Nat) : Bool := (vals k).all fun vs => (lists k 5).all fun p => chk Bs (dotN vs p) (poly Bs vs (p.map (4 + ·)))
theorem o1 : okAll 1 = true := by decide +kernel
theorem o2 : okAll 2 = true := by decide +kernel
theorem o3 : okAll 3 = true := by decide +kernel
theorem o4 : okAll 4 = true := by decide +kernel
end Pg
set_option Elab.async false
set_option linter.all false
set_option maxRecDepth 100000
set_option maxHeartbeats 4000000
namespace Pg
open PySem DL L2 TY Wa Wb Pa Pd
open Cf (plus)
end Pg
set_option Elab.async false
set_option linter.all false
set_option maxRecDepth 100000
set_option maxHeartbeats 4000000
namespace Pe
open PySem DL L2 TY Wa Wb Pa Pb
def ext (vs ms : List Int) (s : List (List Int × Int)) : List (List Int) := s.flatMap fun p => (ways vs ms p.2).map fun r => p.1 ++ r
end Pe
set_option Elab.async false
set_option linter.all false
set_option maxRecDepth 100000
set_option maxHeartbeats 4000000
namespace Pf
open PySem DL L2 TY Wa Wb Pa Pb Pe
def IsMin (P : Int → Prop) : Option Int → Prop
  | none => ∀ c, ¬ P c
  | some c => P c ∧ ∀ d, P d → c ≤ d
theorem IsMin.congr {P P' : Int → Prop} {o : Option Int} (h : IsMin P o) (e : ∀ c, P c ↔ P' c) : IsMin P' o := by
  cases o with
  | none => exact fun c hc => h c ((e c).mpr hc)
  | some c => exact ⟨(e c).mp h.1, fun d hd => h.2 d ((e d).mpr hd)⟩
theorem IsMin.add {P : Int → Prop} {o : Option Int} (h : IsMin P o) (x : Int) : IsMin (fun c => P c ∨ c = x) (some (min x (o.getD x))) := by
  cases o with
  | none => exact ⟨.inr (by simp), fun d hd => by rcases hd with hd | hd; exact absurd hd (h d); simp; omega⟩
  | some c =>
    refine ⟨?_, fun d hd => ?_⟩
    · show P (min x c) ∨ min x c = x
      by_cases z : c < x
      · rw [show min x c = c by omega]; exact .inl h.1
      · exact .inr (by omega)
    · show min x c ≤ d
      rcases hd with hd | hd
      · have := h.2 d hd; omega
      · omega
structure Mt (a : Int) (f : Int → Int → Prop) (t : List (Int × Int)) : Prop where
  nd : (t.map (·.1)).Nodup
  in_ : ∀ p ∈ t, 0 ≤ p.1 ∧ p.1 ≤ a
  mn : ∀ y, IsMin (f y) (dget t y)
theorem Mt.congr {a : Int} {f f' : Int → Int → Prop} {t : List (Int × Int)} (h : Mt a f t) (e : ∀ y c, f y c ↔ f' y c) : Mt a f' t := ⟨h.nd, h.in_, fun y => (h.mn y).congr (e y)⟩
theorem Mt.len {a : Int} {f : Int → Int → Prop} {t : List (Int × Int)} (h : Mt a f t) (ha : 0 ≤ a) : t.length ≤ a.toNat + 1 := by
  have := nodup_le (a.toNat + 1) (t.map (·.1)) h.nd fun x hx => by
    obtain ⟨p, hp, rfl⟩ := List.mem_map.mp hx
    have := h.in_ p hp; omega
  rwa [List.length_map] at this
theorem dput_in {t : List (Int × Int)} {k x : Int} {p : Int × Int} (h : p ∈ dput t k x) : p.1 = k ∨ ∃ q ∈ t, q.1 = p.1 := by
  unfold dput at h
  split at h
  · obtain ⟨q, hq, e1⟩ := List.mem_map.mp h
    split at e1
    · rename_i e2; subst e1; exact .inl e2
    · subst e1; exact .inr ⟨q, hq, rfl⟩
  · rcases List.mem_append.mp h with h | h
    · exact .inr ⟨p, h, rfl⟩
    · rw [List.mem_singleton.mp h]; exact .inl rfl
theorem Mt.put {a : Int} {f : Int → Int → Prop} {t : List (Int × Int)} (h : Mt a f t) {k x : Int} (h0 : 0 ≤ k) (h1 : k ≤ a) : Mt a (fun y c => f y c ∨ (y = k ∧ c = x)) (dput t k (min x ((dget t k).getD x))) := by
  refine ⟨dput_nodup h.nd _ _, fun p hp => ?_, fun y => ?_⟩
  · rcases dput_in hp with e1 | ⟨q, hq, e1⟩
    · omega
    · have := h.in_ q hq; omega
  · rw [dget_put]
    by_cases e1 : y = k
    · subst e1
      rw [if_pos rfl]
      exact ((h.mn y).add x).congr fun c => by simp
    · rw [if_neg e1]
      exact (h.mn y).congr fun c => by simp [e1]
theorem Mt.nil {a : Int} : Mt a (fun _ _ => False) [] := ⟨List.nodup_nil, (fun _ h => by cases h), fun _ _ h => h⟩
def Best (l : List (List Int)) (s : List Int) : Prop := s ∈ l ∧ ∀ r ∈ l, s.sum < r.sum ∨ (s.sum = r.sum ∧ (s = r ∨ s < r))
theorem Best.uniq {l : List (List Int)} {s t : List Int} (h : Best l s) (h' : Best l t) : s = t := by
  rcases h.2 t h'.1 with a | ⟨a, b | b⟩
  · rcases h'.2 s h.1 with c | ⟨c, _⟩ <;> omega
  · exact b
  · rcases h'.2 s h.1 with c | ⟨c, d | d⟩
    · omega
    · exact d.symm
    · exact absurd d (List.lt_asymm b)
def fst (l : List (List Int)) : Option (List Int) := (sortE (l.map fun r => (r.sum, r))).head?.map (·.2)
end Pf
set_option Elab.async false
set_option linter.all false
set_option maxRecDepth 100000
set_option maxHeartbeats 4000000
namespace Pj
open PySem DL L2 TY Pa Pb Wa Wb
open En (e)
end Pj
set_option Elab.async false
set_option linter.all false
set_option maxRecDepth 100000
set_option maxHeartbeats 4000000
namespace Pk
open PySem DL L2 TY Wa Pa Pd Pj Gp
open En (e)
def Mem (T : List (Int × Inn)) (y j : Int) : Prop := ∃ i, dget T y = some i ∧ j ∈ i.map (·.1)
structure Amt (A : List Int) (whole : Int) : Prop where
  up : A.Pairwise (· < ·)
  z : (0 : Int) ∈ A
  w : whole ∈ A
  in_ : ∀ y ∈ A, 0 ≤ y ∧ y ≤ whole
  left : ∀ y ∈ A, whole - y ∈ A
theorem Amt.len {A : List Int} {w : Int} (h : Amt A w) : A.length ≤ (w + 1).toNat := nodup_len (h.up.imp fun h => by omega) h.in_
theorem enum_range (n : Nat) : ∀ i : Nat, ((((List.range' i n).map fun k : Nat => (k : Int)).zipIdx i).filter fun q => decide (q.1 = (q.2 : Int))).map (·.1) = (List.range' i n).map fun k : Nat => (k : Int) := by
  induction n with
  | zero => intro i; rfl
  | succ n ih =>
    intro i
    rw [List.range'_succ, List.map_cons, List.zipIdx_cons, List.filter_cons_of_pos (by simp), List.map_cons, ih]
end Pk
set_option Elab.async false
set_option linter.all false
set_option maxRecDepth 100000
set_option maxHeartbeats 4000000
namespace Pl
open PySem DL L2 TY Wa Wb Pa Pb Pd Pk
open En (e)
theorem wJoin_i {σ : Type} {K : σ → Prop} {f : (σ → Prop) → Prop} (x : σ) (hK : K x) (h : ∀ kj : σ → Prop, kj x → f kj) : wJoin K f := h K hK
theorem dszs_opts : ∀ l : List (Option Int), dszs (l.map e) = l.length
  | [] => rfl
  | o :: l => by
    show dsz (e o) + dszs (l.map e) = _
    rw [dszs_opts l]
    cases o <;> (show 1 + _ = _; rw [List.length_cons]; omega)
theorem isD_told {α : Type} [En α] [DecidableEq α] [EnD α] (x : α) (hd : EnD.dep α ≤ 59 := by decide) : isD 60 (e ((("told" : Str), x) : Str × α)) = true := by
  have h : PyData.strOk ("told" : Str) = true := by decide +kernel
  show (PyData.strOk ("told" : Str) && (isD 59 (e x) && true)) = true
  rw [h, EnD.isd 59 x hd]; rfl
theorem dsz_told {α : Type} [En α] (x : α) : dsz (e ((("told" : Str), x) : Str × α)) = dsz (e x) + 2 := by
  show 1 + (dsz (e x) + 0) + 1 = _
  omega
end Pl
set_option Elab.async false
set_option linter.all false
set_option maxRecDepth 100000
set_option maxHeartbeats 4000000
namespace Gy
open PySem DL L2 TY
open En (e)
-- order: as told
open Pa Pw
noncomputable section
def d_spread_1 (EP : Exc → Sto → Prop) : DS :=
  (dIfS (dB (dOp (dIs false) (dOp dIx (dVar 2) (dVar 9)) (dC .non))) (dDrop (dBM "list" dAppend (dVar 3) (dCons (dTup (dCons (dTup (dCons (dOp dAdd (dOp dIx (dVar 5) (dC (.int 0))) (dVar 8)) (dCons (dOp dAdd (dOp dIx (dVar 5) (dC (.int 1))) (dVar 7)) dNil))) (dCons (dVar 9) dNil))) dNil))) dNext)
def d_spread_2 (EP : Exc → Sto → Prop) : DS :=
  (dFor (iAny (dVar 1)) (gTup 2 (gCons (gSet 7) (gCons (gSet 8) gNil))) (dSeq (dAsg (dOp dMod (dOp dAdd (dVar 6) (dVar 7)) (dVar 0)) (gSet 9))
  (d_spread_1 EP)))
def d_spread_3 (EP : Exc → Sto → Prop) : DS :=
  (dIfS (dB (dOp (dIs false) (dOp dIx (dVar 2) (dVar 6)) (dC .non))) (dSeq (dAsg (dVar 5) (gSub dSetL (dVar 2) (dVar 6)))
  (d_spread_2 EP)) dNext)
def d_spread_4 (EP : Exc → Sto → Prop) : DS :=
  (dSeq (dAsg (dVar 4) (gTup 2 (gCons (gSet 5) (gCons (gSet 6) gNil))))
  (d_spread_3 EP))
def d_spread_5 (EP : Exc → Sto → Prop) : DS :=
  (dSeq (dDrop (dBM "list" dRemove (dVar 3) (dCons (dVar 4) dNil)))
  (d_spread_4 EP))
def d_spread_6 (EP : Exc → Sto → Prop) : DS :=
  (dSeq (dWhile (dB (dOp dNe (dVar 3) (dLst dNil))) (dSeq (dAsg (dCall (dMinD false) (dCons (dVar 3) dNil)) (gSet 4))
  (d_spread_5 EP)))
  (dRet (dVar 2)))
def d_spread (EP : Exc → Sto → Prop) : DS :=
  (dSeq (dPar 2 3 (dCons (dOp dMul (dLst (dCons (dC .non) dNil)) (dVar 0)) (dCons (dLst (dCons (dTup (dCons (dTup (dCons (dC (.int 0)) (dCons (dC (.int 0)) dNil))) (dCons (dC (.int 0)) dNil))) dNil)) dNil)))
  (d_spread_6 EP))
def W_spread (size : Int) (steps : (List (Int × Int))) (K : (List (Option (Int × Int))) → Prop) (E : Exc → Prop) : Prop :=
  (-(2 ^ 63) ≤ size ∧ size ≤ 1000000) ∧ wAp (fun q_1 : (List (Option (Int × Int))) × (List ((Int × Int) × Int)) => wLoop (fun (s_7 : (List ((Int × Int) × Int)) × (List (Option (Int × Int)))) (next_14 : ((List ((Int × Int) × Int)) × (List (Option (Int × Int)))) → Prop) => wIf (decide (s_7.1 ≠ ([] : (List ((Int × Int) × Int))))) (s_7.1 ≠ [] ∧ wAp (fun here_16 : ((Int × Int) × Int) => here_16 ∈ s_7.1 ∧ wAp (fun line_18 : (List ((Int × Int) × Int)) => wAp (fun q_20 : ((Int × Int) × Int) => (0 ≤ q_20.2 ∧ q_20.2 < (s_7.2).length) ∧ wJoin (fun s_23 : (List (Option (Int × Int))) × (List ((Int × Int) × Int)) => next_14 (s_23.2, s_23.1)) (fun k_j_22 => wIf ((gI s_7.2 q_20.2)).isNone ((0 ≤ q_20.2 ∧ q_20.2 < (s_7.2).length) ∧ wAp (fun found_27 : (List (Option (Int × Int))) => wFor steps line_18 (fun (q_30 : (Int × Int)) (s_29 : (List ((Int × Int) × Int))) (next_37 : ((List ((Int × Int) × Int))) → Prop) => 0 < size ∧ wAp (fun there_39 : Int => (0 ≤ there_39 ∧ there_39 < (found_27).length) ∧ wJoin (fun s_43 : (List ((Int × Int) × Int)) => next_37 s_43) (fun k_j_42 => wIf ((gI found_27 there_39)).isNone ((s_29).length < sizeLine ∧ wAp (fun line_44 : (List ((Int × Int) × Int)) => k_j_42 line_44) (s_29 ++ [(((((q_20.1.1 + q_30.2), (q_20.1.2 + q_30.1)) : (Int × Int)), there_39) : ((Int × Int) × Int))])) (k_j_42 s_29))) ((q_20.2 + q_30.1) % size)) (fun s_29 : (List ((Int × Int) × Int)) => k_j_22 (found_27, s_29))) ((s_7.2).set (q_20.2).toNat (some q_20.1))) (k_j_22 (s_7.2, line_18)))) here_16) (goneE s_7.1 here_16)) (mnE s_7.1)) (wAp K s_7.2)) (q_1.2, q_1.1)) ((List.replicate (size).toNat (none : (Option (Int × Int)))), (((((((0 : Int), (0 : Int)) : (Int × Int)), (0 : Int)) : ((Int × Int) × Int)) :: []) : (List ((Int × Int) × Int))))
def sp_spread : FSp := spN (RepL.cons (v Int) (RepL.cons (lst (v (Int × Int))) RepL.nil)) (lst (v (Option (Int × Int)))) (fun x K E => W_spread x.1 x.2.1 K E)
theorem len_spread : ∀ ds S P EP, sp_spread ds S P EP → ds.length = 2 := by
  rintro _ S P EP ⟨O, x, hc, ⟨_, _, rfl, _, ⟨_, _, rfl, _, rfl⟩⟩, _⟩
  rfl
theorem pure_spread : ∀ ds S Q EP, sp_spread ds S Q EP → d_spread EP { nx := fun _ S' => Q .non S', rt := Q } (startD 10 ds) S := by
  rintro _ S0 Q EP ⟨O, ⟨size, steps, _⟩, hc, ⟨_, _, rfl, rfl, ⟨d_steps, _, rfl, r_steps, rfl⟩⟩, h⟩
  have hc0 : Cx [] [] S0 := Cx.nil
  have k0 := St.refl [] S0
  have hBR := BR.top hc0
  change W_spread size steps _ _ at h
  show (_ : DS) _ [some (e (size : Int)), some d_steps, none, none, none, none, none, none, none, none] _
  unfold d_spread
  unfold W_spread at h
  obtain ⟨o_6, h⟩ := h
  refine seq_i (st_parNN (B := []) hc (en_rep1 hc (EN.ed (en_lst hc (er_cons (ED.o ei_none) er_nil) (szl (by decide : 1 ≤ 1000)))) (ei_var (i := 0) size rfl) o_6) (fun p_ S1_ hc_ => (en_lst hc_ (er_cons (ED.o (ei_tup (x := (((((0 : Int), (0 : Int)) : (Int × Int)), (0 : Int)) : ((Int × Int) × Int))) (el_cons (ei_tup (x := (((0 : Int), (0 : Int)) : (Int × Int))) (el_cons (ei_c (0 : Int) rfl) (el_cons (ei_c (0 : Int) rfl) el_nil)) rfl (szl (by decide : 2 ≤ 1000))) (el_cons (ei_c (0 : Int) rfl) el_nil)) rfl (szl (by decide : 2 ≤ 1000)))) er_nil) (szl (by decide : 1 ≤ 1000)))) h fun q_1 p_found_2 d_ S0_ S1 k1 r_4 n_found_2 k2 r_5 f_ h => ?_)
  have r_steps := Rep.mono _ (ct_new n_found_2 k1) r_steps
  have z_found_2 := hBR.new k0 hc.b n_found_2
  have hc := Cx.cons hc k1 n_found_2 (lst_ne r_4)
  have k0 := hBR.st k0 k1
  obtain ⟨p_line_3, rfl, n_line_3⟩ := f_
  have k1 := k2
  have r_steps := Rep.mono _ (ct_new n_line_3 k1) r_steps
  have r_4 := Rep.mono _ (ct_new n_line_3 k1) r_4
  have z_line_3 := hBR.new k0 hc.b n_line_3
  have hc := Cx.cons hc k1 n_line_3 (lst_ne r_5)
  have k0 := hBR.st k0 k1
  show (_ : DS) _ [some (e (size : Int)), some d_steps, some (.ref p_found_2), some (.ref p_line_3), none, none, none, none, none, none] _
  unfold d_spread_6
  skip
  refine seq_i (st_while (fun (s_7 : (List ((Int × Int) × Int)) × (List (Option (Int × Int)))) (ρ_ : Nv) (S_ : Sto) => ∃ (o_here_8 : Option D) (o_told_9 : Option D) (o_rest_10 : Option D) (o_worth_11 : Option D) (o_weight_12 : Option D) (o_there_13 : Option D) , ρ_ = [some (e (size : Int)), some d_steps, some (.ref p_found_2), some (.ref p_line_3), o_here_8, o_told_9, o_rest_10, o_worth_11, o_weight_12, o_there_13] ∧ (St [] S0) S_ ∧ Cx [] (p_line_3 :: p_found_2 :: O) S_ ∧ (lst (v (Int × Int))).r (ct [] (p_line_3 :: p_found_2 :: O) S_) steps d_steps ∧ (lst (v (Option (Int × Int)))).r (ct [] (p_line_3 :: O) S_) s_7.2 (.ref p_found_2) ∧ (lst (v ((Int × Int) × Int))).r (ct [] (p_found_2 :: O) S_) s_7.1 (.ref p_line_3)) ⟨none, none, none, none, none, none, rfl, k0, hc, r_steps, r_4, r_5⟩ h fun s_7 next_14 ρ_ S1 Kx_ a_ h kxw_15 => ?_)
  obtain ⟨o_here_8, o_told_9, o_rest_10, o_worth_11, o_weight_12, o_there_13, rfl, k0, hc, r_steps, r_4, r_5⟩ := a_
  refine wh_test (B := []) (eb_b (el_ne (ed_var (i := 3) s_7.1 rfl r_5) (EN.ed (en_lst hc (er_nil (R := (v ((Int × Int) × Int)))) (szl (by decide)))))) h (fun S1 k1 hb_ h => ?_) (fun S1 k1 hb_ h => ?_)
  · have r_steps := Rep.mono _ (ct_st k1) r_steps
    have r_4 := Rep.mono _ (ct_st k1) r_4
    have r_5 := Rep.mono _ (ct_st k1) r_5
    have k0 := hBR.st k0 k1
    have hc := hc.st k1
    show (_ : DS) _ [some (e (size : Int)), some d_steps, some (.ref p_found_2), some (.ref p_line_3), o_here_8, o_told_9, o_rest_10, o_worth_11, o_weight_12, o_there_13] _
    obtain ⟨o_17, h⟩ := h
    refine seq_i (st_asg (B := []) (ei_mnE (es_lst (ed_var (i := 3) s_7.1 rfl r_5)) o_17) h fun here_16 S1 k1 h => ?_)
    have r_steps := Rep.mono _ (ct_st k1) r_steps
    have r_4 := Rep.mono _ (ct_st k1) r_4
    have r_5 := Rep.mono _ (ct_st k1) r_5
    have k0 := hBR.st k0 k1
    have hc := hc.st k1
    show (_ : DS) _ [some (e (size : Int)), some d_steps, some (.ref p_found_2), some (.ref p_line_3), some (e (here_16 : ((Int × Int) × Int))), o_told_9, o_rest_10, o_worth_11, o_weight_12, o_there_13] _
    unfold d_spread_5
    obtain ⟨o_19, h⟩ := h
    refine seq_i (st_remove (B := []) (O := p_found_2 :: O) rfl r_5 (ei_var (i := 4) here_16 rfl) o_19 h fun line_18 S1 c_ k1 r_5 h => ?_)
    have r_steps := Rep.mono _ (ct_mutst (c := c_) (List.Mem.head _) k1) r_steps
    have r_4 := Rep.mono _ (ct_mutst (c := c_) (List.Mem.head _) k1) r_4
    have hc := Cx.mutB (c := c_) (hc.st k1) hBR (hBR.st k0 k1) z_line_3
    have k0 := hBR.mt c_ (hBR.st k0 k1) z_line_3
    show (_ : DS) _ [some (e (size : Int)), some d_steps, some (.ref p_found_2), some (.ref p_line_3), some (e (here_16 : ((Int × Int) × Int))), o_told_9, o_rest_10, o_worth_11, o_weight_12, o_there_13] _
    unfold d_spread_4
    refine seq_i (st_asgG (B := []) (ei_var (i := 4) here_16 rfl) (ρ' := fun q_20 : ((Int × Int) × Int) => [some (e (size : Int)), some d_steps, some (.ref p_found_2), some (.ref p_line_3), some (e (here_16 : ((Int × Int) × Int))), some (e (q_20.1 : (Int × Int))), some (e (q_20.2 : Int)), o_worth_11, o_weight_12, o_there_13]) (fun _ => (eg_t2 eg_set eg_set)) h fun q_20 S1 k1 h => ?_)
    have r_steps := Rep.mono _ (ct_st k1) r_steps
    have r_4 := Rep.mono _ (ct_st k1) r_4
    have r_5 := Rep.mono _ (ct_st k1) r_5
    have k0 := hBR.st k0 k1
    have hc := hc.st k1
    show (_ : DS) _ [some (e (size : Int)), some d_steps, some (.ref p_found_2), some (.ref p_line_3), some (e (here_16 : ((Int × Int) × Int))), some (e (q_20.1 : (Int × Int))), some (e (q_20.2 : Int)), o_worth_11, o_weight_12, o_there_13] _
    unfold d_spread_3
    obtain ⟨o_21, h⟩ := h
    try dsimp only
    refine st_join (fun (s_23 : (List (Option (Int × Int))) × (List ((Int × Int) × Int))) (ρ_ : Nv) (S_ : Sto) => ∃ (o_worth_24 : Option D) (o_weight_25 : Option D) (o_there_26 : Option D) , ρ_ = [some (e (size : Int)), some d_steps, some (.ref p_found_2), some (.ref p_line_3), some (e (here_16 : ((Int × Int) × Int))), some (e (q_20.1 : (Int × Int))), some (e (q_20.2 : Int)), o_worth_24, o_weight_25, o_there_26] ∧ (St [] S0) S_ ∧ Cx [] (p_line_3 :: p_found_2 :: O) S_ ∧ (lst (v (Int × Int))).r (ct [] (p_line_3 :: p_found_2 :: O) S_) steps d_steps ∧ (lst (v (Option (Int × Int)))).r (ct [] (p_line_3 :: O) S_) s_23.1 (.ref p_found_2) ∧ (lst (v ((Int × Int) × Int))).r (ct [] (p_found_2 :: O) S_) s_23.2 (.ref p_line_3)) h (fun s_23 ρ_ S1 h a_ => ?_) (fun k_j_22 h kk_ => ?_)
    · obtain ⟨o_worth_24, o_weight_25, o_there_26, rfl, k0, hc, r_steps, r_4, r_5⟩ := a_
      exact kxw_15 (s_23.2, s_23.1) _ _ h ⟨some (e (here_16 : ((Int × Int) × Int))), some (e (q_20.1 : (Int × Int))), some (e (q_20.2 : Int)), o_worth_24, o_weight_25, o_there_26, rfl, k0, hc, r_steps, r_4, r_5⟩
    · refine st_if (B := []) (eb_b (ei_isN (ei_atL (ed_var (i := 2) s_7.2 rfl r_4) (ei_var (i := 6) q_20.2 rfl) o_21))) h (fun S1 k1 hb_ h => ?_) (fun S1 k1 hb_ h => ?_)
      · have r_steps := Rep.mono _ (ct_st k1) r_steps
        have r_4 := Rep.mono _ (ct_st k1) r_4
        have r_5 := Rep.mono _ (ct_st k1) r_5
        have k0 := hBR.st k0 k1
        have hc := hc.st k1
        obtain ⟨o_28, h⟩ := h
        refine seq_i (st_setL (B := []) (O := p_line_3 :: O) rfl r_4 (ED.o (ei_some (ei_var (i := 5) q_20.1 rfl))) (ei_var (i := 6) q_20.2 rfl) o_28 h fun found_27 S1 c_ k1 r_4 h => ?_)
        have r_steps := Rep.mono _ (ct_mutst (c := c_) (List.Mem.tail _ (List.Mem.head _)) k1) r_steps
        have r_5 := Rep.mono _ (ct_mutst (c := c_) (List.Mem.head _) k1) r_5
        have hc := Cx.mutB (c := c_) (hc.st k1) hBR (hBR.st k0 k1) z_found_2
        have k0 := hBR.mt c_ (hBR.st k0 k1) z_found_2
        show (_ : DS) _ [some (e (size : Int)), some d_steps, some (.ref p_found_2), some (.ref p_line_3), some (e (here_16 : ((Int × Int) × Int))), some (e (q_20.1 : (Int × Int))), some (e (q_20.2 : Int)), o_worth_11, o_weight_12, o_there_13] _
        unfold d_spread_2
        refine st_for (B := []) (fun (S2_ : Sto) (s_29 : (List ((Int × Int) × Int))) (ρ_ : Nv) (S_ : Sto) => ∃ (o_there_31 : Option D) (o_worth_32 : Option D) (o_weight_33 : Option D) , ρ_ = [some (e (size : Int)), some d_steps, some (.ref p_found_2), some (.ref p_line_3), some (e (here_16 : ((Int × Int) × Int))), some (e (q_20.1 : (Int × Int))), some (e (q_20.2 : Int)), o_worth_32, o_weight_33, o_there_31] ∧ (St [] S0) S_ ∧ Cx [] (p_line_3 :: p_found_2 :: O) S_ ∧ (exR (ct [] (p_line_3 :: p_found_2 :: O) S2_)).r (ct [] (p_line_3 :: p_found_2 :: O) S_) () .non ∧ (lst (v (Int × Int))).r (ct [] (p_line_3 :: p_found_2 :: O) S_) steps d_steps ∧ (lst (v (Option (Int × Int)))).r (ct [] (p_line_3 :: O) S_) found_27 (.ref p_found_2) ∧ (lst (v ((Int × Int) × Int))).r (ct [] (p_found_2 :: O) S_) s_29 (.ref p_line_3)) (it_any (es_lst (ed_var (i := 1) steps rfl r_steps))) h (fun S1 k1 => ⟨o_there_13, o_worth_11, o_weight_12, rfl, hBR.st k0 k1, hc.st k1, Ext.refl _, Rep.mono _ (ct_st k1) r_steps, Rep.mono _ (ct_st k1) r_4, Rep.mono _ (ct_st k1) r_5⟩) (fun S2_ s_ ρ_ S_ a_ => by obtain ⟨_, _, _, _, _, _, hOwn_, _, _, _⟩ := a_; exact hOwn_) (fun S2_35 k2_ q_30 hx_ d_ s_29 next_ ρ_ S1 Kx_ a_ rx_ h kx_ => ?_) (fun S2_ s_29 ρ_ S1 k2_ h a_ => ?_)
        · obtain ⟨o_there_31, o_worth_32, o_weight_33, rfl, k0, hc, hE_34, r_steps, r_4, r_5⟩ := a_
          cases rx_
          refine (eg_t2 eg_set eg_set) _ _ ?_
          show (_ : DS) _ [some (e (size : Int)), some d_steps, some (.ref p_found_2), some (.ref p_line_3), some (e (here_16 : ((Int × Int) × Int))), some (e (q_20.1 : (Int × Int))), some (e (q_20.2 : Int)), some (e (q_30.1 : Int)), some (e (q_30.2 : Int)), o_there_31] _
          obtain ⟨o_40, h⟩ := h
          refine seq_i (st_asg (B := []) (ei_mod (ei_add (ei_var (i := 6) q_20.2 rfl) (ei_var (i := 7) q_30.1 rfl)) (ei_var (i := 0) size rfl) o_40) h fun there_39 S1 k1 h => ?_)
          have r_steps := Rep.mono _ (ct_st k1) r_steps
          have r_4 := Rep.mono _ (ct_st k1) r_4
          have r_5 := Rep.mono _ (ct_st k1) r_5
          have hE_34 := Rep.mono _ (ct_st k1) hE_34
          have k0 := hBR.st k0 k1
          have hc := hc.st k1
          show (_ : DS) _ [some (e (size : Int)), some d_steps, some (.ref p_found_2), some (.ref p_line_3), some (e (here_16 : ((Int × Int) × Int))), some (e (q_20.1 : (Int × Int))), some (e (q_20.2 : Int)), some (e (q_30.1 : Int)), some (e (q_30.2 : Int)), some (e (there_39 : Int))] _
          unfold d_spread_1
          obtain ⟨o_41, h⟩ := h
          try dsimp only
          refine st_join (fun (s_43 : (List ((Int × Int) × Int))) (ρ_ : Nv) (S_ : Sto) => ρ_ = [some (e (size : Int)), some d_steps, some (.ref p_found_2), some (.ref p_line_3), some (e (here_16 : ((Int × Int) × Int))), some (e (q_20.1 : (Int × Int))), some (e (q_20.2 : Int)), some (e (q_30.1 : Int)), some (e (q_30.2 : Int)), some (e (there_39 : Int))] ∧ (St [] S0) S_ ∧ Cx [] (p_line_3 :: p_found_2 :: O) S_ ∧ (lst (v (Int × Int))).r (ct [] (p_line_3 :: p_found_2 :: O) S_) steps d_steps ∧ (lst (v (Option (Int × Int)))).r (ct [] (p_line_3 :: O) S_) found_27 (.ref p_found_2) ∧ (lst (v ((Int × Int) × Int))).r (ct [] (p_found_2 :: O) S_) s_43 (.ref p_line_3) ∧ (exR (ct [] (p_line_3 :: p_found_2 :: O) S2_35)).r (ct [] (p_line_3 :: p_found_2 :: O) S_) () .non) h (fun s_43 ρ_ S1 h a_ => ?_) (fun k_j_42 h kk_ => ?_)
          · obtain ⟨rfl, k0, hc, r_steps, r_4, r_5, hE_34⟩ := a_
            exact kx_ s_43 _ _ h ⟨some (e (there_39 : Int)), some (e (q_30.1 : Int)), some (e (q_30.2 : Int)), rfl, k0, hc, hE_34, r_steps, r_4, r_5⟩
          · refine st_if (B := []) (eb_b (ei_isN (ei_atL (ed_var (i := 2) found_27 rfl r_4) (ei_var (i := 9) there_39 rfl) o_41))) h (fun S1 k1 hb_ h => ?_) (fun S1 k1 hb_ h => ?_)
            · have r_steps := Rep.mono _ (ct_st k1) r_steps
              have r_4 := Rep.mono _ (ct_st k1) r_4
              have r_5 := Rep.mono _ (ct_st k1) r_5
              have hE_34 := Rep.mono _ (ct_st k1) hE_34
              have k0 := hBR.st k0 k1
              have hc := hc.st k1
              obtain ⟨o_45, h⟩ := h
              refine st_append (B := []) (O := p_found_2 :: O) rfl r_5 (ED.o (ei_tup (x := (((((q_20.1.1 + q_30.2), (q_20.1.2 + q_30.1)) : (Int × Int)), there_39) : ((Int × Int) × Int))) (el_cons (ei_tup (x := (((q_20.1.1 + q_30.2), (q_20.1.2 + q_30.1)) : (Int × Int))) (el_cons (ei_add (ei_fst (ei_var (i := 5) q_20.1 rfl)) (ei_var (i := 8) q_30.2 rfl)) (el_cons (ei_add (ei_snd (ei_var (i := 5) q_20.1 rfl)) (ei_var (i := 7) q_30.1 rfl)) el_nil)) rfl (szl (by decide : 2 ≤ 1000))) (el_cons (ei_var (i := 9) there_39 rfl) el_nil)) rfl (szl (by decide : 2 ≤ 1000)))) o_45 h fun line_44 S1 c_ k1 r_5 h => ?_
              have r_steps := Rep.mono _ (ct_mutst (c := c_) (List.Mem.head _) k1) r_steps
              have r_4 := Rep.mono _ (ct_mutst (c := c_) (List.Mem.head _) k1) r_4
              have hE_34 := Rep.mono _ (ct_mutst (c := c_) (List.Mem.head _) k1) hE_34
              have hc := Cx.mutB (c := c_) (hc.st k1) hBR (hBR.st k0 k1) z_line_3
              have k0 := hBR.mt c_ (hBR.st k0 k1) z_line_3
              exact kk_ line_44 _ _ h ⟨rfl, k0, hc, r_steps, r_4, r_5, hE_34⟩
            · have r_steps := Rep.mono _ (ct_st k1) r_steps
              have r_4 := Rep.mono _ (ct_st k1) r_4
              have r_5 := Rep.mono _ (ct_st k1) r_5
              have hE_34 := Rep.mono _ (ct_st k1) hE_34
              have k0 := hBR.st k0 k1
              have hc := hc.st k1
              exact kk_ s_29 _ _ h ⟨rfl, k0, hc, r_steps, r_4, r_5, hE_34⟩
        · obtain ⟨o_there_31, o_worth_32, o_weight_33, rfl, k0, hc, HOWN_, r_steps, r_4, r_5⟩ := a_
          exact kk_ (found_27, s_29) _ _ h ⟨o_worth_32, o_weight_33, o_there_31, rfl, k0, hc, r_steps, r_4, r_5⟩
      · have r_steps := Rep.mono _ (ct_st k1) r_steps
        have r_4 := Rep.mono _ (ct_st k1) r_4
        have r_5 := Rep.mono _ (ct_st k1) r_5
        have k0 := hBR.st k0 k1
        have hc := hc.st k1
        exact kk_ (s_7.2, line_18) _ _ h ⟨o_worth_11, o_weight_12, o_there_13, rfl, k0, hc, r_steps, r_4, r_5⟩
  · have r_steps := Rep.mono _ (ct_st k1) r_steps
    have r_4 := Rep.mono _ (ct_st k1) r_4
    have r_5 := Rep.mono _ (ct_st k1) r_5
    have k0 := hBR.st k0 k1
    have hc := hc.st k1
    show (_ : DS) _ [some (e (size : Int)), some d_steps, some (.ref p_found_2), some (.ref p_line_3), o_here_8, o_told_9, o_rest_10, o_worth_11, o_weight_12, o_there_13] _
    exact ⟨_, rfl, h _ _ (St.nil k0) (Rep.mono _ (ct_mono (fun a m => (List.mem_cons_of_mem _ m))) r_4) ⟨_, rfl, z_found_2⟩⟩
def F_spread (size : Int) (steps : List (Int × Int)) : List (Option (Int × Int)) := (List.range size.toNat).map fun r : Nat => bestP steps size (r : Int)
structure ok_spread (size : Int) (steps : List (Int × Int)) : Prop where
  s0 : 0 < size
  s1 : size ≤ 1000
  few : steps.length ≤ 1000
  pos : ∀ s ∈ steps, 0 ≤ s.2 ∧ 0 < s.1
theorem push_loop {m : Int} (hm : 0 < m) {found : List (Option P2)} (hl : (found.length : Int) = m) {here : P2 × Int} {kont : List (P2 × Int) → Prop} : ∀ (r : List P2) (l : List (P2 × Int)), l.length + r.length ≤ 16000000 → kont (l ++ pushes r m found here) →
    wFor r l (fun (q_30 : (Int × Int)) (s_29 : (List ((Int × Int) × Int))) (next_37 : ((List ((Int × Int) × Int))) → Prop) => 0 < m ∧ wAp (fun there_39 : Int => (0 ≤ there_39 ∧ there_39 < (found).length) ∧ wJoin (fun s_43 : (List ((Int × Int) × Int)) => next_37 s_43) (fun k_j_42 => wIf ((gI found there_39)).isNone ((s_29).length < sizeLine ∧ wAp (fun line_44 : (List ((Int × Int) × Int)) => k_j_42 line_44) (s_29 ++ [(((((here.1.1 + q_30.2), (here.1.2 + q_30.1)) : (Int × Int)), there_39) : ((Int × Int) × Int))])) (k_j_42 s_29))) ((here.2 + q_30.1) % m)) kont
  | [], l, _, h => by
    show kont l
    simpa [pushes] using h
  | s :: r, l, hlen, h => by
    have hlen' : l.length + r.length + 1 ≤ 16000000 := by simp only [List.length_cons] at hlen; omega
    refine ⟨hm, ⟨Int.emod_nonneg _ (by omega), by rw [hl]; exact Int.emod_lt_of_pos _ hm⟩, wIf_i (fun c => ⟨lineI (by omega), ?_⟩) fun c => ?_⟩
    · refine push_loop hm hl r _ (by rw [List.length_append, List.length_singleton]; omega) ?_
      have e1 : pushes (s :: r) m found here = ((here.1.1 + s.2, here.1.2 + s.1), (here.2 + s.1) % m) :: pushes r m found here := by
        unfold pushes; rw [List.filterMap_cons, if_pos c]
      rw [e1] at h
      rw [List.append_assoc]; exact h
    · refine push_loop hm hl r _ (by omega) ?_
      have e1 : pushes (s :: r) m found here = pushes r m found here := by
        unfold pushes; rw [List.filterMap_cons, if_neg (by rw [c]; exact Bool.false_ne_true)]
      rw [e1] at h; exact h
theorem pushes_len (steps : List P2) (m : Int) (found : List (Option P2)) (here : P2 × Int) : (pushes steps m found here).length ≤ steps.length := List.length_filterMap_le ..
theorem w_spread {size : Int} {steps : List (Int × Int)} (o : ok_spread size steps) {K : List (Option (Int × Int)) → Prop} {E : Exc → Prop} (h : K (F_spread size steps)) : W_spread size steps K E := by
  have hm := o.s0
  have hm1 := o.s1
  have hk := o.few
  unfold W_spread
  refine ⟨⟨by omega, by omega⟩, fun n s => (Inv steps size s.2 s.1 ∧ s.1.length + steps.length * uns s.2 ≤ 1 + steps.length * 1000) ∧ n = s.1.length + (steps.length + 1) * uns s.2, ⟨_, ⟨Inv.start hm, ?_⟩, rfl⟩, fun n s hI => ?_⟩
  · have h1 := uns_le (List.replicate size.toNat (none : Option P2))
    rw [List.length_replicate] at h1
    have h2 : uns (List.replicate size.toNat (none : Option P2)) ≤ 1000 := by omega
    have := Nat.mul_le_mul_left steps.length h2
    show 1 + steps.length * uns (List.replicate size.toNat (none : Option P2)) ≤ _
    omega
  · obtain ⟨⟨I, hb⟩, rfl⟩ := hI
    obtain ⟨line, found⟩ := s
    dsimp only at I hb ⊢
    have hbig : steps.length * 1000 ≤ 1000000 := by omega
    refine wIf_i (fun c => ?_) fun c => ?_
    · have hne : line ≠ [] := of_decide_eq_true c
      have hin := mnE_in hne
      have hgl := gone_len hin
      obtain ⟨hw, hmd⟩ := I.b _ hin
      have hr0 : 0 ≤ (mnE line).2 := by rw [← hmd]; exact Int.emod_nonneg _ (by omega)
      have hr1 : (mnE line).2 < size := by rw [← hmd]; exact Int.emod_lt_of_pos _ hm
      have hbd : 0 ≤ (mnE line).2 ∧ (mnE line).2 < (found.length : Int) := ⟨hr0, by rw [I.len]; exact hr1⟩
      refine ⟨hne, hin, hbd, wIf_i (fun c2 => ⟨hbd, ?_⟩) fun c2 => ?_⟩
      · have I2 := I.settle hm o.pos hne c2
        refine push_loop hm (by rw [List.length_set]; exact I.len) steps _ (by omega) ?_
        have hu : uns (found.set (mnE line).2.toNat (some (mnE line).1)) + 1 = uns found := uns_set _ _ _ (by
          rw [gI_at hbd]
          exact congrArg some (Option.isNone_iff_eq_none.mp c2))
        have hp := pushes_len steps size (found.set (mnE line).2.toNat (some (mnE line).1)) (mnE line)
        have hl2 : (goneE line (mnE line) ++ pushes steps size (found.set (mnE line).2.toNat (some (mnE line).1)) (mnE line)).length + 1 ≤ line.length + steps.length := by
          rw [List.length_append]; omega
        have hmul : steps.length * uns found = steps.length * uns (found.set (mnE line).2.toNat (some (mnE line).1)) + steps.length := by rw [← hu, Nat.mul_succ]
        refine ⟨_, ?_, ⟨I2, ?_⟩, rfl⟩
        · show (goneE line (mnE line) ++ _).length + (steps.length + 1) * uns (found.set _ _) < line.length + (steps.length + 1) * uns found
          rw [Nat.add_mul, Nat.add_mul, Nat.one_mul, Nat.one_mul]
          omega
        · show (goneE line (mnE line) ++ _).length + steps.length * uns (found.set _ _) ≤ _
          omega
      · have I2 := I.drop (here := mnE line) ((gI_some hbd).resolve_left (by rw [c2]; exact Bool.false_ne_true))
        refine ⟨_, ?_, ⟨I2, ?_⟩, rfl⟩
        · show (goneE line (mnE line)).length + (steps.length + 1) * uns found < line.length + (steps.length + 1) * uns found
          omega
        · show (goneE line (mnE line)).length + steps.length * uns found ≤ _
          omega
    · have he : line = [] := by
        rw [decide_eq_false_iff_not, Decidable.not_not] at c
        exact c
      subst he
      show K found
      rw [I.fin hm o.pos]
      exact h
def d_least_amounts_1 (EP : Exc → Sto → Prop) : DS :=
  (dRet (dCall dTuple1 (dCons (dLc (iAny (dVar 2)) (gSet 4) dYes (dIf (dB (dOp (dIs false) (dVar 4) (dC .non))) (dC .non) (dOp dIx (dVar 4) (dC (.int 0)))) [4]) dNil)))
def d_least_amounts_2 (EP : Exc → Sto → Prop) : DS :=
  (dSeq (dAsg (dFn sp_spread (xF EP) (dCons (dVar 1) (dCons (dLc (iAny (dSl dSlc (dOp dIx (dVar 0) (dC (.int 0))) (dPart (dC (.int 1))) dNoPart)) (gSet 3) dYes (dTup (dCons (dVar 3) (dCons (dVar 3) dNil))) [3]) dNil))) (gSet 2))
  (d_least_amounts_1 EP))
def d_least_amounts (EP : Exc → Sto → Prop) : DS :=
  (dSeq (dAsg (dOp dIx (dOp dIx (dVar 0) (dC (.int 0))) (dC (.int 0))) (gSet 1))
  (d_least_amounts_2 EP))
def W_least_amounts (coinage : ((List Int) × (List Int))) (K : (List (Option Int)) → Prop) (E : Exc → Prop) : Prop :=
  (0 ≤ (0 : Int) ∧ (0 : Int) < (coinage.1).length) ∧ wAp (fun least_1 : Int => ((sl coinage.1 (some (1 : Int)) none)).length ≤ sizeLine ∧ Gy.ok_spread least_1 (((sl coinage.1 (some (1 : Int)) none)).map (fun value_8 : Int => ((value_8, value_8) : (Int × Int)))) ∧ wAp (fun found_9 : (List (Option (Int × Int))) => (found_9).length ≤ sizeLine ∧ (∀ told_17 ∈ found_9, ((told_17).isNone = false → (told_17).isSome = true)) ∧ wAp K ((found_9).map (fun told_17 : (Option (Int × Int)) => (if (told_17).isNone = true then (none : (Option Int)) else (some ((told_17).getD default).1))))) (Gy.F_spread least_1 (((sl coinage.1 (some (1 : Int)) none)).map (fun value_8 : Int => ((value_8, value_8) : (Int × Int)))))) (gI coinage.1 (0 : Int))
def sp_least_amounts : FSp := spW (RepL.cons (v ((List Int) × (List Int))) RepL.nil) (v (List (Option Int))) (fun x K E => W_least_amounts x.1 K E)
theorem len_least_amounts : ∀ ds S P EP, sp_least_amounts ds S P EP → ds.length = 1 := by
  rintro _ S P EP ⟨O, x, hc, ⟨_, _, rfl, _, rfl⟩, _⟩
  rfl
theorem pure_least_amounts : ∀ ds S Q EP, sp_least_amounts ds S Q EP → d_least_amounts EP { nx := fun _ S' => Q .non S', rt := Q } (startD 5 ds) S := by
  rintro _ S0 Q EP ⟨O, ⟨coinage, _⟩, hc, ⟨_, _, rfl, rfl, rfl⟩, h⟩
  have hc0 : Cx [] [] S0 := Cx.nil
  have k0 := St.refl [] S0
  have hBR := BR.top hc0
  change W_least_amounts coinage _ _ at h
  show (_ : DS) _ [some (e (coinage : ((List Int) × (List Int)))), none, none, none, none] _
  unfold d_least_amounts
  unfold W_least_amounts at h
  obtain ⟨o_2, h⟩ := h
  refine seq_i (st_asg (B := []) (ei_at (ei_fst (ei_var (i := 0) coinage rfl)) (ei_c (0 : Int) rfl) o_2) h fun least_1 S1 k1 h => ?_)
  have k0 := hBR.st k0 k1
  have hc := hc.st k1
  show (_ : DS) _ [some (e (coinage : ((List Int) × (List Int)))), some (e (least_1 : Int)), none, none, none] _
  unfold d_least_amounts_2
  obtain ⟨o_10, o_11, h⟩ := h
  refine seq_i (st_asgC (B := []) (EN.ed (en_call hc (ea_cons (ED.o (ei_var (i := 1) least_1 rfl)) (ea_cons (EN.ed (en_lc0 (R := (v (Int × Int))) (fun value_8 : Int => ((value_8, value_8) : (Int × Int))) hc (it_any (es_tup (O := O) (ei_sl (ei_fst (ei_var (i := 0) coinage rfl)) (ep_some (ei_c (1 : Int) rfl)) ep_no))) o_10 (fun value_8 hx_4 d_5 S_7 k_3 r_6 => by cases r_6; exact ⟨[some (e (coinage : ((List Int) × (List Int)))), some (e (least_1 : Int)), none, some (e (value_8 : Int)), none], eg_set, (ED.o (ei_tup (x := ((value_8, value_8) : (Int × Int))) (el_cons (ei_var (i := 3) value_8 rfl) (el_cons (ei_var (i := 3) value_8 rfl) el_nil)) rfl (szl (by decide : 2 ≤ 1000))))⟩))) ea_nil)) (fun K E h => (Gy.w_spread o_11) h))) h fun found_9 d_found_9 S1 k1 r_found_9 h => ?_)
  have k0 := hBR.st k0 k1
  have hc := hc.st k1
  show (_ : DS) _ [some (e (coinage : ((List Int) × (List Int)))), some (e (least_1 : Int)), some d_found_9, none, none] _
  unfold d_least_amounts_1
  obtain ⟨o_19, o_20, h⟩ := h
  first | (unfold dNext; dsimp only) | dsimp only | skip
  refine (st_ret (B := []) (ei_tuple (es_lst (EN.ed (en_lc0 (R := (v (Option Int))) (fun told_17 : (Option (Int × Int)) => (if (told_17).isNone = true then (none : (Option Int)) else (some ((told_17).getD default).1))) hc (it_any (es_lst (ed_var (i := 2) found_9 rfl r_found_9))) o_19 (fun told_17 hx_13 d_14 S_16 k_12 r_15 => by cases r_15; exact ⟨[some (e (coinage : ((List Int) × (List Int)))), some (e (least_1 : Int)), some d_found_9, none, some (e (told_17 : (Option (Int × Int))))], eg_set, (ED.o (ed_if (eb_b (ei_isN (ei_var (i := 4) told_17 rfl))) (fun hx_18 => ei_none) (fun hx_18 => (ei_some (ei_fst (ei_get (ei_var (i := 4) told_17 rfl) ((o_20 told_17 hx_13) hx_18)))))))⟩))))) h fun v d S1 k1 r h => h d S1 (St.nil (k0.trans k1)) r)
def F_least_amounts (coinage : ((List Int) × (List Int))) : (List (Option Int)) := (let least_1 : Int := (gI coinage.1 (0 : Int)); (let found_9 : (List (Option (Int × Int))) := (Gy.F_spread least_1 (((sl coinage.1 (some (1 : Int)) none)).map (fun value_8 : Int => ((value_8, value_8) : (Int × Int))))); ((found_9).map (fun told_17 : (Option (Int × Int)) => (if (told_17).isNone = true then (none : (Option Int)) else (some ((told_17).getD default).1))))))
def ok_least_amounts (coinage : ((List Int) × (List Int))) : Prop := ((0 ≤ (0 : Int) ∧ (0 : Int) < (coinage.1).length) ∧ (let least_1 : Int := (gI coinage.1 (0 : Int)); (((sl coinage.1 (some (1 : Int)) none)).length ≤ sizeLine ∧ (Gy.ok_spread least_1 (((sl coinage.1 (some (1 : Int)) none)).map (fun value_8 : Int => ((value_8, value_8) : (Int × Int)))) ∧ (let found_9 : (List (Option (Int × Int))) := (Gy.F_spread least_1 (((sl coinage.1 (some (1 : Int)) none)).map (fun value_8 : Int => ((value_8, value_8) : (Int × Int))))); ((found_9).length ≤ sizeLine ∧ ((∀ told_17 ∈ found_9, ((told_17).isNone = false → (told_17).isSome = true)) ∧ True)))))))
theorem w_least_amounts {coinage : ((List Int) × (List Int))} (o : ok_least_amounts coinage) {K : (List (Option Int)) → Prop} {E : Exc → Prop} (h : K (F_least_amounts coinage)) : W_least_amounts coinage K E := (And.intro (And.left o) (show _ from (let least_1 : Int := (gI coinage.1 (0 : Int)); (And.intro (And.left (And.right o)) (And.intro (And.left (And.right (And.right o))) (show _ from (let found_9 : (List (Option (Int × Int))) := (Gy.F_spread least_1 (((sl coinage.1 (some (1 : Int)) none)).map (fun value_8 : Int => ((value_8, value_8) : (Int × Int))))); (And.intro (And.left (And.right (And.right (And.right o)))) (And.intro (And.left (And.right (And.right (And.right (And.right o))))) h)))))))))
structure Cv (c : List Int × List Int) (m : Int) (vs : List Int) : Prop where
  eq : c.1 = m :: vs
  m0 : 0 < m
  m1 : m ≤ 1000
  v : ∀ v ∈ vs, 0 < v ∧ v ≤ 1000
  few : vs.length ≤ 1000
section
variable {c : List Int × List Int} {m : Int} {vs : List Int}
theorem Cv.gi (C : Cv c m vs) : gI c.1 (0 : Int) = m := by rw [C.eq]; rfl
theorem Cv.dr (C : Cv c m vs) : sl c.1 (some (1 : Int)) none = vs := by rw [C.eq, sl_from (by decide)]; rfl
theorem Cv.ps (C : Cv c m vs) : ∀ v ∈ vs, 0 < v := fun v h => (C.v v h).1
theorem Cv.len (C : Cv c m vs) : 0 ≤ (0 : Int) ∧ (0 : Int) < (c.1).length := by rw [C.eq]; exact ⟨by decide, by simp only [List.length_cons]; omega⟩
theorem la_eq (C : Cv c m vs) : Gy.F_least_amounts c = (List.range m.toNat).map fun r : Nat => Px.LA vs m (r : Int) := by
  unfold Gy.F_least_amounts
  dsimp only
  rw [C.gi, C.dr]
  unfold F_spread
  rw [List.map_map]
  refine List.map_congr_left fun r hr => ?_
  show (if (bestP (Px.stepsOf vs) m (r : Int)).isNone = true then (none : Option Int) else some ((bestP (Px.stepsOf vs) m (r : Int)).getD default).1) = _
  unfold Px.LA
  cases bestP (Px.stepsOf vs) m (r : Int) <;> rfl
theorem okSp (C : Cv c m vs) : ok_spread m (vs.map fun v : Int => ((v, v) : Int × Int)) where
  s0 := C.m0
  s1 := C.m1
  few := by rw [List.length_map]; exact C.few
  pos := fun s hs => by
    obtain ⟨v, hv, rfl⟩ := List.mem_map.mp hs
    have := C.v v hv
    exact ⟨by show 0 ≤ v; omega, this.1⟩
theorem okLA (C : Cv c m vs) : Gy.ok_least_amounts c := by
  have h1 := okSp C
  refine ⟨C.len, ?_⟩
  dsimp only
  rw [C.gi, C.dr]
  refine ⟨line (Nat.le_trans C.few (by decide)), h1, ?_, fun t _ h => ?_, trivial⟩
  · unfold F_spread
    rw [List.length_map, List.length_range]
    exact line (by have := C.m1; omega)
  · cases t with
    | none => cases h
    | some _ => rfl
end
def d_greatest_gap_1 (EP : Exc → Sto → Prop) : DS :=
  (dRet (dCall (dMinD true) (dCons (dLst (dCons (dUn dNeg (dC (.int 1))) (dCons (dOp dSub (dCall (dMinD true) (dCons (dFn sp_least_amounts (xF EP) (dCons (dVar 0) dNil)) dNil)) (dOp dIx (dOp dIx (dVar 0) (dC (.int 0))) (dC (.int 0)))) dNil))) dNil)))
def d_greatest_gap (EP : Exc → Sto → Prop) : DS :=
  (dSeq (dIfS (dB (dOp (dCmpI (fun i j => decide (j < i))) (dFn Gk.sp_unit_of (xF EP) (dCons (dVar 0) dNil)) (dC (.int 1)))) (dRet (dC .non)) dNext)
  (d_greatest_gap_1 EP))
def W_greatest_gap (coinage : ((List Int) × (List Int))) (K : (Option Int) → Prop) (E : Exc → Prop) : Prop :=
  Gk.ok_unit_of coinage ∧ wIf (decide ((1 : Int) < (Gk.F_unit_of coinage))) (wAp K (none : (Option Int))) (Gy.ok_least_amounts coinage ∧ (∀ x_ ∈ (Gy.F_least_amounts coinage), (x_ : Option Int).isSome = true) ∧ (((Gy.F_least_amounts coinage)).map fun x_ => x_.getD default) ≠ [] ∧ (0 ≤ (0 : Int) ∧ (0 : Int) < (coinage.1).length) ∧ (((-(1 : Int)) :: (((mxI (((Gy.F_least_amounts coinage)).map fun x_ => x_.getD default)) - (gI coinage.1 (0 : Int))) :: [])) : (List Int)) ≠ [] ∧ wAp K (some (mxI (((-(1 : Int)) :: (((mxI (((Gy.F_least_amounts coinage)).map fun x_ => x_.getD default)) - (gI coinage.1 (0 : Int))) :: [])) : (List Int)))))
def sp_greatest_gap : FSp := spW (RepL.cons (v ((List Int) × (List Int))) RepL.nil) (v (Option Int)) (fun x K E => W_greatest_gap x.1 K E)
theorem len_greatest_gap : ∀ ds S P EP, sp_greatest_gap ds S P EP → ds.length = 1 := by
  rintro _ S P EP ⟨O, x, hc, ⟨_, _, rfl, _, rfl⟩, _⟩
  rfl
theorem pure_greatest_gap : ∀ ds S Q EP, sp_greatest_gap ds S Q EP → d_greatest_gap EP { nx := fun _ S' => Q .non S', rt := Q } (startD 1 ds) S := by
  rintro _ S0 Q EP ⟨O, ⟨coinage, _⟩, hc, ⟨_, _, rfl, rfl, rfl⟩, h⟩
  have hc0 : Cx [] [] S0 := Cx.nil
  have k0 := St.refl [] S0
  have hBR := BR.top hc0
  change W_greatest_gap coinage _ _ at h
  show (_ : DS) _ [some (e (coinage : ((List Int) × (List Int))))] _
  unfold d_greatest_gap
  unfold W_greatest_gap at h
  obtain ⟨o_1, h⟩ := h
  refine seq_i (st_if (B := []) (eb_b (ei_gt (ED.i (ed_call hc (ea_cons (ED.o (ei_var (i := 0) coinage rfl)) ea_nil) (fun K E h => (Gk.w_unit_of o_1) h))) (ei_c (1 : Int) rfl))) h (fun S1 k1 hb_ h => ?_) (fun S1 k1 hb_ h => ?_))
  · have k0 := hBR.st k0 k1
    have hc := hc.st k1
    refine (st_ret (B := []) ei_none h fun v d S1 k1 r h => h d S1 (St.nil (k0.trans k1)) r)
  · have k0 := hBR.st k0 k1
    have hc := hc.st k1
    show (_ : DS) _ [some (e (coinage : ((List Int) × (List Int))))] _
    show (_ : DS) _ [some (e (coinage : ((List Int) × (List Int))))] _
    unfold d_greatest_gap_1
    obtain ⟨o_2, o_3, o_4, o_5, o_6, h⟩ := h
    first | (unfold dNext; dsimp only) | dsimp only | skip
    refine (st_ret (B := []) (ei_some (ei_mx (es_lst (EN.ed (en_lst hc (er_cons (ED.o (ei_neg (ei_c (1 : Int) rfl))) (er_cons (ED.o (ei_sub (ei_mx (es_tup (O := O) (ei_tget (ED.i (ed_call hc (ea_cons (ED.o (ei_var (i := 0) coinage rfl)) ea_nil) (fun K E h => (Gy.w_least_amounts o_2) h))) o_3)) o_4) (ei_at (ei_fst (ei_var (i := 0) coinage rfl)) (ei_c (0 : Int) rfl) o_5))) er_nil)) (szl (by decide : 2 ≤ 1000))))) o_6)) h fun v d S1 k1 r h => h d S1 (St.nil (k0.trans k1)) r)
def F_greatest_gap (coinage : ((List Int) × (List Int))) : (Option Int) := (if (decide ((1 : Int) < (Gk.F_unit_of coinage))) = true then (none : (Option Int)) else (some (mxI (((-(1 : Int)) :: (((mxI (((Gy.F_least_amounts coinage)).map fun x_ => x_.getD default)) - (gI coinage.1 (0 : Int))) :: [])) : (List Int)))))
def ok_greatest_gap (coinage : ((List Int) × (List Int))) : Prop := (Gk.ok_unit_of coinage ∧ (((decide ((1 : Int) < (Gk.F_unit_of coinage))) = true → True) ∧ ((decide ((1 : Int) < (Gk.F_unit_of coinage))) = false → (Gy.ok_least_amounts coinage ∧ ((∀ x_ ∈ (Gy.F_least_amounts coinage), (x_ : Option Int).isSome = true) ∧ ((((Gy.F_least_amounts coinage)).map fun x_ => x_.getD default) ≠ [] ∧ ((0 ≤ (0 : Int) ∧ (0 : Int) < (coinage.1).length) ∧ ((((-(1 : Int)) :: (((mxI (((Gy.F_least_amounts coinage)).map fun x_ => x_.getD default)) - (gI coinage.1 (0 : Int))) :: [])) : (List Int)) ≠ [] ∧ True))))))))
theorem w_greatest_gap {coinage : ((List Int) × (List Int))} (o : ok_greatest_gap coinage) {K : (Option Int) → Prop} {E : Exc → Prop} (h : K (F_greatest_gap coinage)) : W_greatest_gap coinage K E := (And.intro (And.left o) (wIf_c (K := K) (x := (none : (Option Int))) (y := (some (mxI (((-(1 : Int)) :: (((mxI (((Gy.F_least_amounts coinage)).map fun x_ => x_.getD default)) - (gI coinage.1 (0 : Int))) :: [])) : (List Int))))) h (fun hc1 hk1 => hk1) (fun hc1 hk1 => (And.intro (And.left (And.right (And.right o) hc1)) (And.intro (And.left (And.right (And.right (And.right o) hc1))) (And.intro (And.left (And.right (And.right (And.right (And.right o) hc1)))) (And.intro (And.left (And.right (And.right (And.right (And.right (And.right o) hc1))))) (And.intro (And.left (And.right (And.right (And.right (And.right (And.right (And.right o) hc1)))))) hk1))))))))
def d_gaps_many_1 (EP : Exc → Sto → Prop) : DS :=
  (dRet (dCall dSum (dCons (dLc (iAny (dFn sp_least_amounts (xF EP) (dCons (dVar 0) dNil))) (gSet 1) dYes (dOp dFdiv (dVar 1) (dOp dIx (dOp dIx (dVar 0) (dC (.int 0))) (dC (.int 0)))) [1]) dNil)))
def d_gaps_many (EP : Exc → Sto → Prop) : DS :=
  (dSeq (dIfS (dB (dOp (dCmpI (fun i j => decide (j < i))) (dFn Gk.sp_unit_of (xF EP) (dCons (dVar 0) dNil)) (dC (.int 1)))) (dRet (dC .non)) dNext)
  (d_gaps_many_1 EP))
def W_gaps_many (coinage : ((List Int) × (List Int))) (K : (Option Int) → Prop) (E : Exc → Prop) : Prop :=
  Gk.ok_unit_of coinage ∧ wIf (decide ((1 : Int) < (Gk.F_unit_of coinage))) (wAp K (none : (Option Int))) (Gy.ok_least_amounts coinage ∧ ((Gy.F_least_amounts coinage)).length ≤ sizeLine ∧ (∀ one_7 ∈ (Gy.F_least_amounts coinage), ((0 ≤ (0 : Int) ∧ (0 : Int) < (coinage.1).length)) ∧ (one_7).isSome = true ∧ CDivW ((one_7).getD default) (gI coinage.1 (0 : Int))) ∧ wAp K (some ((((Gy.F_least_amounts coinage)).map (fun one_7 : (Option Int) => (((one_7).getD default) / (gI coinage.1 (0 : Int)))))).sum))
def sp_gaps_many : FSp := spW (RepL.cons (v ((List Int) × (List Int))) RepL.nil) (v (Option Int)) (fun x K E => W_gaps_many x.1 K E)
theorem len_gaps_many : ∀ ds S P EP, sp_gaps_many ds S P EP → ds.length = 1 := by
  rintro _ S P EP ⟨O, x, hc, ⟨_, _, rfl, _, rfl⟩, _⟩
  rfl
theorem pure_gaps_many : ∀ ds S Q EP, sp_gaps_many ds S Q EP → d_gaps_many EP { nx := fun _ S' => Q .non S', rt := Q } (startD 2 ds) S := by
  rintro _ S0 Q EP ⟨O, ⟨coinage, _⟩, hc, ⟨_, _, rfl, rfl, rfl⟩, h⟩
  have hc0 : Cx [] [] S0 := Cx.nil
  have k0 := St.refl [] S0
  have hBR := BR.top hc0
  change W_gaps_many coinage _ _ at h
  show (_ : DS) _ [some (e (coinage : ((List Int) × (List Int)))), none] _
  unfold d_gaps_many
  unfold W_gaps_many at h
  obtain ⟨o_1, h⟩ := h
  refine seq_i (st_if (B := []) (eb_b (ei_gt (ED.i (ed_call hc (ea_cons (ED.o (ei_var (i := 0) coinage rfl)) ea_nil) (fun K E h => (Gk.w_unit_of o_1) h))) (ei_c (1 : Int) rfl))) h (fun S1 k1 hb_ h => ?_) (fun S1 k1 hb_ h => ?_))
  · have k0 := hBR.st k0 k1
    have hc := hc.st k1
    refine (st_ret (B := []) ei_none h fun v d S1 k1 r h => h d S1 (St.nil (k0.trans k1)) r)
  · have k0 := hBR.st k0 k1
    have hc := hc.st k1
    show (_ : DS) _ [some (e (coinage : ((List Int) × (List Int)))), none] _
    show (_ : DS) _ [some (e (coinage : ((List Int) × (List Int)))), none] _
    unfold d_gaps_many_1
    obtain ⟨o_8, o_9, o_10, h⟩ := h
    first | (unfold dNext; dsimp only) | dsimp only | skip
    refine (st_ret (B := []) (ei_some (ei_sum (es_lst (EN.ed (en_lc0 (R := (v Int)) (fun one_7 : (Option Int) => (((one_7).getD default) / (gI coinage.1 (0 : Int)))) hc (it_any (es_tup (O := O) (ED.i (ed_call hc (ea_cons (ED.o (ei_var (i := 0) coinage rfl)) ea_nil) (fun K E h => (Gy.w_least_amounts o_8) h))))) o_9 (fun one_7 hx_3 d_4 S_6 k_2 r_5 => by cases r_5; exact ⟨[some (e (coinage : ((List Int) × (List Int)))), some (e (one_7 : (Option Int)))], eg_set, (ED.o (ei_fdiv (ei_get (ei_var (i := 1) one_7 rfl) (o_10 one_7 hx_3).2.1) (ei_at (ei_fst (ei_var (i := 0) coinage rfl)) (ei_c (0 : Int) rfl) (o_10 one_7 hx_3).1) (o_10 one_7 hx_3).2.2))⟩)))))) h fun v d S1 k1 r h => h d S1 (St.nil (k0.trans k1)) r)
def F_gaps_many (coinage : ((List Int) × (List Int))) : (Option Int) := (if (decide ((1 : Int) < (Gk.F_unit_of coinage))) = true then (none : (Option Int)) else (some ((((Gy.F_least_amounts coinage)).map (fun one_7 : (Option Int) => (((one_7).getD default) / (gI coinage.1 (0 : Int)))))).sum))
def ok_gaps_many (coinage : ((List Int) × (List Int))) : Prop := (Gk.ok_unit_of coinage ∧ (((decide ((1 : Int) < (Gk.F_unit_of coinage))) = true → True) ∧ ((decide ((1 : Int) < (Gk.F_unit_of coinage))) = false → (Gy.ok_least_amounts coinage ∧ (((Gy.F_least_amounts coinage)).length ≤ sizeLine ∧ ((∀ one_7 ∈ (Gy.F_least_amounts coinage), ((0 ≤ (0 : Int) ∧ (0 : Int) < (coinage.1).length)) ∧ (one_7).isSome = true ∧ CDivW ((one_7).getD default) (gI coinage.1 (0 : Int))) ∧ True))))))
theorem w_gaps_many {coinage : ((List Int) × (List Int))} (o : ok_gaps_many coinage) {K : (Option Int) → Prop} {E : Exc → Prop} (h : K (F_gaps_many coinage)) : W_gaps_many coinage K E := (And.intro (And.left o) (wIf_c (K := K) (x := (none : (Option Int))) (y := (some ((((Gy.F_least_amounts coinage)).map (fun one_7 : (Option Int) => (((one_7).getD default) / (gI coinage.1 (0 : Int)))))).sum)) h (fun hc2 hk2 => hk2) (fun hc2 hk2 => (And.intro (And.left (And.right (And.right o) hc2)) (And.intro (And.left (And.right (And.right (And.right o) hc2))) (And.intro (And.left (And.right (And.right (And.right (And.right o) hc2)))) hk2))))))
def d_gaps_below_1 (EP : Exc → Sto → Prop) : DS :=
  (dAug (dI2 fun i j => i + j) 3 (dIf (dB (dOp (dCmpI (fun i j => decide (j < i))) (dVar 6) (dVar 4))) (dOp dFdiv (dOp dSub (dOp dAdd (dOp dSub (dVar 6) (dVar 4)) (dVar 2)) (dC (.int 1))) (dVar 2)) (dC (.int 0))))
def d_gaps_below_2 (EP : Exc → Sto → Prop) : DS :=
  (dSeq (dFor (iEnm (dCons (dFn sp_least_amounts (xF EP) (dCons (dVar 0) dNil)) dNil)) (gTup 2 (gCons (gSet 4) (gCons (gSet 5) gNil))) (dSeq (dAsg (dIf (dB (dOp (dIs false) (dVar 5) (dC .non))) (dVar 1) (dCall dMin2 (dCons (dVar 5) (dCons (dVar 1) dNil)))) (gSet 6))
  (d_gaps_below_1 EP)))
  (dRet (dVar 3)))
def d_gaps_below (EP : Exc → Sto → Prop) : DS :=
  (dSeq (dPar 2 3 (dCons (dOp dIx (dOp dIx (dVar 0) (dC (.int 0))) (dC (.int 0))) (dCons (dC (.int 0)) dNil)))
  (d_gaps_below_2 EP))
def W_gaps_below (coinage : ((List Int) × (List Int))) (amount : Int) (K : Int → Prop) (E : Exc → Prop) : Prop :=
  (0 ≤ (0 : Int) ∧ (0 : Int) < (coinage.1).length) ∧ wAp (fun q_1 : Int × Int => Gy.ok_least_amounts coinage ∧ wFor (enumI (Gy.F_least_amounts coinage)) q_1.2 (fun (q_8 : (Int × (Option Int))) (s_7 : Int) (next_16 : (Int) → Prop) => ((q_8.2).isNone = false → (q_8.2).isSome = true) ∧ wAp (fun first_19 : Int => ((decide (q_8.1 < first_19)) = true → CDivW (((first_19 - q_8.1) + q_1.1) - (1 : Int)) q_1.1) ∧ wAp (fun found_22 : Int => next_16 found_22) (s_7 + (if (decide (q_8.1 < first_19)) = true then ((((first_19 - q_8.1) + q_1.1) - (1 : Int)) / q_1.1) else (0 : Int)))) (if (q_8.2).isNone = true then amount else (min ((q_8.2).getD default) amount))) (fun s_7 : Int => wAp K s_7)) ((gI coinage.1 (0 : Int)), (0 : Int))
def sp_gaps_below : FSp := spW (RepL.cons (v ((List Int) × (List Int))) (RepL.cons (v Int) RepL.nil)) (v Int) (fun x K E => W_gaps_below x.1 x.2.1 K E)
theorem len_gaps_below : ∀ ds S P EP, sp_gaps_below ds S P EP → ds.length = 2 := by
  rintro _ S P EP ⟨O, x, hc, ⟨_, _, rfl, _, ⟨_, _, rfl, _, rfl⟩⟩, _⟩
  rfl
theorem pure_gaps_below : ∀ ds S Q EP, sp_gaps_below ds S Q EP → d_gaps_below EP { nx := fun _ S' => Q .non S', rt := Q } (startD 7 ds) S := by
  rintro _ S0 Q EP ⟨O, ⟨coinage, amount, _⟩, hc, ⟨_, _, rfl, rfl, ⟨_, _, rfl, rfl, rfl⟩⟩, h⟩
  have hc0 : Cx [] [] S0 := Cx.nil
  have k0 := St.refl [] S0
  have hBR := BR.top hc0
  change W_gaps_below coinage amount _ _ at h
  show (_ : DS) _ [some (e (coinage : ((List Int) × (List Int)))), some (e (amount : Int)), none, none, none, none, none] _
  unfold d_gaps_below
  unfold W_gaps_below at h
  obtain ⟨o_6, h⟩ := h
  refine seq_i (st_par (B := []) (ED.o (O' := O) (ei_at (ei_fst (ei_var (i := 0) coinage rfl)) (ei_c (0 : Int) rfl) o_6)) (ED.o (O' := O) (ei_c (0 : Int) rfl)) h fun q_1 d_2 d_3 S1 k1 r_4 r_5 h => ?_)
  cases r_4
  cases r_5
  have k0 := hBR.st k0 k1
  have hc := hc.st k1
  show (_ : DS) _ [some (e (coinage : ((List Int) × (List Int)))), some (e (amount : Int)), some (e (q_1.1 : Int)), some (e (q_1.2 : Int)), none, none, none] _
  unfold d_gaps_below_2
  obtain ⟨o_12, h⟩ := h
  refine seq_i (st_for (B := []) (fun (S2_ : Sto) (s_7 : Int) (ρ_ : Nv) (S_ : Sto) => ∃ (o_first_9 : Option D) (o_rest_10 : Option D) (o_one_11 : Option D) , ρ_ = [some (e (coinage : ((List Int) × (List Int)))), some (e (amount : Int)), some (e (q_1.1 : Int)), some (e (s_7 : Int)), o_rest_10, o_one_11, o_first_9] ∧ (St [] S0) S_ ∧ Cx [] (O) S_ ∧ (exR (ct [] (O) S2_)).r (ct [] (O) S_) () .non) (EIt.pv (it_enum (es_tup (O := O) (ED.i (ed_call hc (ea_cons (ED.o (ei_var (i := 0) coinage rfl)) ea_nil) (fun K E h => (Gy.w_least_amounts o_12) h)))))) h (fun S1 k1 => ⟨none, none, none, rfl, hBR.st k0 k1, hc.st k1, Ext.refl _⟩) (fun S2_ s_ ρ_ S_ a_ => by obtain ⟨_, _, _, _, _, _, hOwn_⟩ := a_; exact hOwn_) (fun S2_14 k2_ q_8 hx_ d_ s_7 next_ ρ_ S1 Kx_ a_ rx_ h kx_ => ?_) (fun S2_ s_7 ρ_ S1 k2_ h a_ => ?_))
  · obtain ⟨o_first_9, o_rest_10, o_one_11, rfl, k0, hc, hE_13⟩ := a_
    cases rx_
    refine (eg_t2 eg_set eg_set) _ _ ?_
    show (_ : DS) _ [some (e (coinage : ((List Int) × (List Int)))), some (e (amount : Int)), some (e (q_1.1 : Int)), some (e (s_7 : Int)), some (e (q_8.1 : Int)), some (e (q_8.2 : (Option Int))), o_first_9] _
    obtain ⟨o_20, h⟩ := h
    refine seq_i (st_asg (B := []) (ed_if (eb_b (ei_isN (ei_var (i := 5) q_8.2 rfl))) (fun hx_18 => (ei_var (i := 1) amount rfl)) (fun hx_18 => (ei_min (ei_get (ei_var (i := 5) q_8.2 rfl) (o_20 hx_18)) (ei_var (i := 1) amount rfl)))) h fun first_19 S1 k1 h => ?_)
    have hE_13 := Rep.mono _ (ct_st k1) hE_13
    have k0 := hBR.st k0 k1
    have hc := hc.st k1
    show (_ : DS) _ [some (e (coinage : ((List Int) × (List Int)))), some (e (amount : Int)), some (e (q_1.1 : Int)), some (e (s_7 : Int)), some (e (q_8.1 : Int)), some (e (q_8.2 : (Option Int))), some (e (first_19 : Int))] _
    unfold d_gaps_below_1
    obtain ⟨o_23, h⟩ := h
    refine st_aug (B := []) (f := fun i j => i + j) rfl (ed_if (eb_b (ei_gt (ei_var (i := 6) first_19 rfl) (ei_var (i := 4) q_8.1 rfl))) (fun hx_21 => (ei_fdiv (ei_sub (ei_add (ei_sub (ei_var (i := 6) first_19 rfl) (ei_var (i := 4) q_8.1 rfl)) (ei_var (i := 2) q_1.1 rfl)) (ei_c (1 : Int) rfl)) (ei_var (i := 2) q_1.1 rfl) (o_23 hx_21))) (fun hx_21 => (ei_c (0 : Int) rfl))) h fun found_22 S1 k1 h => ?_
    have hE_13 := Rep.mono _ (ct_st k1) hE_13
    have k0 := hBR.st k0 k1
    have hc := hc.st k1
    exact kx_ found_22 _ _ h ⟨some (e (first_19 : Int)), some (e (q_8.1 : Int)), some (e (q_8.2 : (Option Int))), rfl, k0, hc, hE_13⟩
  · obtain ⟨o_first_9, o_rest_10, o_one_11, rfl, k0, hc, HOWN_⟩ := a_
    show (_ : DS) _ [some (e (coinage : ((List Int) × (List Int)))), some (e (amount : Int)), some (e (q_1.1 : Int)), some (e (s_7 : Int)), o_rest_10, o_one_11, o_first_9] _
    first | (unfold dNext; dsimp only) | dsimp only | skip
    refine (st_ret (B := []) (ei_var (i := 3) s_7 rfl) h fun v d S1 k1 r h => h d S1 (St.nil (k0.trans k1)) r)
def F_gaps_below (coinage : List Int × List Int) (amount : Int) : Int := Px.sG (coinage.1.drop 1) (gI coinage.1 (0 : Int)) amount
def ok_gaps_below (coinage : List Int × List Int) (amount : Int) : Prop := (∃ m vs, Cv coinage m vs) ∧ 0 ≤ amount
theorem enum_range {α : Type} (f : Nat → α) (n : Nat) : enumI ((List.range n).map f) = (List.range n).map fun r : Nat => ((r : Int), f r) := by
  unfold enumI
  refine List.ext_getElem (by simp) fun i h1 h2 => ?_
  simp
theorem gb_eq {c : List Int × List Int} {m : Int} {vs : List Int} (C : Cv c m vs) (x : Nat) : F_gaps_below c (x : Int) = (Px.G c.1 x : Int) := by
  unfold F_gaps_below
  rw [C.gi, C.eq]
  exact Px.sG_eq C.m0 C.ps x
theorem w_gaps_below {coinage : List Int × List Int} {amount : Int} (o : ok_gaps_below coinage amount) {K : Int → Prop} {E : Exc → Prop} (h : K (F_gaps_below coinage amount)) : W_gaps_below coinage amount K E := by
  obtain ⟨⟨m, vs, C⟩, h0⟩ := o
  unfold W_gaps_below
  refine ⟨C.len, ?_⟩
  show Gy.ok_least_amounts coinage ∧ _
  refine ⟨okLA C, ?_⟩
  rw [C.gi, la_eq C, enum_range]
  refine wFor_of (fun pre s => s = (pre.map fun q : Int × Option Int => if (decide (q.1 < (if (q.2).isNone = true then amount else (min ((q.2).getD default) amount)))) = true then ((((if (q.2).isNone = true then amount else (min ((q.2).getD default) amount)) - q.1) + m) - 1) / m else 0).sum) rfl (fun pre q post s next hx hI go => ?_) fun s hs => ?_
  · refine ⟨fun hn => ?_, fun _ => cdiv C.m0 (by have := C.m1; omega), go _ ?_⟩
    · cases h9 : q.2 with
      | none => rw [h9] at hn; cases hn
      | some _ => rfl
    · rw [hI, List.map_append, List.sum_append, List.map_singleton, List.sum_singleton]
  · show K s
    rw [hs, List.map_map]
    unfold F_gaps_below Px.sG at h
    rw [C.gi, C.eq] at h
    exact h
def d_nth_gap_1 (EP : Exc → Sto → Prop) : DS :=
  (dIfS (dB (dOp (dCmpI (fun i j => decide (i ≤ j))) (dFn sp_gaps_below (xF EP) (dCons (dVar 0) (dCons (dVar 5) dNil))) (dVar 1))) (dAsg (dVar 5) (gSet 3)) (dAsg (dVar 5) (gSet 4)))
def d_nth_gap_2 (EP : Exc → Sto → Prop) : DS :=
  (dSeq (dWhile (dB (dOp (dCmpI (fun i j => decide (i < j))) (dOp dAdd (dVar 3) (dC (.int 1))) (dVar 4))) (dSeq (dAsg (dOp dFdiv (dOp dAdd (dVar 3) (dVar 4)) (dC (.int 2))) (gSet 5))
  (d_nth_gap_1 EP)))
  (dRet (dVar 3)))
def d_nth_gap_3 (EP : Exc → Sto → Prop) : DS :=
  (dSeq (dWhile (dB (dOp (dCmpI (fun i j => decide (i ≤ j))) (dFn sp_gaps_below (xF EP) (dCons (dVar 0) (dCons (dVar 4) dNil))) (dVar 1))) (dAsg (dOp dMul (dC (.int 2)) (dVar 4)) (gSet 4)))
  (d_nth_gap_2 EP))
def d_nth_gap_4 (EP : Exc → Sto → Prop) : DS :=
  (dSeq (dAsg (dTup (dCons (dC (.int 0)) (dCons (dC (.int 1)) dNil))) (gTup 2 (gCons (gSet 3) (gCons (gSet 4) gNil))))
  (d_nth_gap_3 EP))
def d_nth_gap_5 (EP : Exc → Sto → Prop) : DS :=
  (dSeq (dIfS (dOrT (dNotT (dTru (dFn Ca.sp_is_integer (xF EP) (dCons (dVar 1) dNil)))) (dOrT (dB (dOp (dCmpI (fun i j => decide (i < j))) (dVar 1) (dC (.int 0)))) (dAndT (dB (dOp (dIs true) (dVar 2) (dC .non))) (dB (dOp (dCmpI (fun i j => decide (j ≤ i))) (dVar 1) (dVar 2)))))) (dRaise0 "Nothing" (xF EP)) dNext)
  (d_nth_gap_4 EP))
def d_nth_gap (EP : Exc → Sto → Prop) : DS :=
  (dSeq (dAsg (dFn sp_gaps_many (xF EP) (dCons (dVar 0) dNil)) (gSet 2))
  (d_nth_gap_5 EP))
def W_nth_gap (coinage : ((List Int) × (List Int))) (number : D) (K : Int → Prop) (E : Exc → Prop) : Prop :=
  Gy.ok_gaps_many coinage ∧ wAp (fun many_1 : (Option Int) => IsV number ∧ ((!(isI number)) = false → (IsIn number ∧ ((decide ((toI number) < (0 : Int))) = false → (many_1).isSome = true → ((many_1).isSome = true ∧ IsIn number)))) ∧ wIf ((!(isI number)) || ((decide ((toI number) < (0 : Int))) || ((many_1).isSome && (decide (((many_1).getD default) ≤ (toI number)))))) (E ⟨"Nothing", []⟩) (wAp (fun q_8 : Int × Int => wLoop (fun (s_13 : Int) (next_14 : (Int) → Prop) => Gy.ok_gaps_below coinage s_13 ∧ IsIn number ∧ wIf (decide ((Gy.F_gaps_below coinage s_13) ≤ (toI number))) (CMulA (2 : Int) s_13 ∧ wAp (fun high_18 : Int => next_14 high_18) ((2 : Int) * s_13)) (wLoop (fun (s_20 : Int × Int) (next_22 : (Int × Int) → Prop) => wIf (decide ((s_20.1 + (1 : Int)) < s_20.2)) (CDivW (s_20.1 + s_20.2) (2 : Int) ∧ wAp (fun middle_24 : Int => Gy.ok_gaps_below coinage middle_24 ∧ IsIn number ∧ wJoin (fun s_29 : Int × Int => next_22 (s_29.1, s_29.2)) (fun k_j_28 => wIf (decide ((Gy.F_gaps_below coinage middle_24) ≤ (toI number))) (wAp (fun low_30 : Int => k_j_28 (low_30, s_20.2)) middle_24) (wAp (fun high_31 : Int => k_j_28 (s_20.1, high_31)) middle_24))) ((s_20.1 + s_20.2) / (2 : Int))) (wAp K s_20.1)) (q_8.1, s_13))) q_8.2) ((0 : Int), (1 : Int)))) (Gy.F_gaps_many coinage)
def sp_nth_gap : FSp := spW (RepL.cons (v ((List Int) × (List Int))) (RepL.cons (v D) RepL.nil)) (v Int) (fun x K E => W_nth_gap x.1 x.2.1 K E)
theorem len_nth_gap : ∀ ds S P EP, sp_nth_gap ds S P EP → ds.length = 2 := by
  rintro _ S P EP ⟨O, x, hc, ⟨_, _, rfl, _, ⟨_, _, rfl, _, rfl⟩⟩, _⟩
  rfl
theorem pure_nth_gap : ∀ ds S Q EP, sp_nth_gap ds S Q EP → d_nth_gap EP { nx := fun _ S' => Q .non S', rt := Q } (startD 6 ds) S := by
  rintro _ S0 Q EP ⟨O, ⟨coinage, number, _⟩, hc, ⟨_, _, rfl, rfl, ⟨d_number, _, rfl, e_number, rfl⟩⟩, h⟩
  have hc0 : Cx [] [] S0 := Cx.nil
  have k0 := St.refl [] S0
  have hBR := BR.top hc0
  replace e_number := Eq.symm e_number
  subst e_number
  change W_nth_gap coinage number _ _ at h
  show (_ : DS) _ [some (e (coinage : ((List Int) × (List Int)))), some (e (number : D)), none, none, none, none] _
  unfold d_nth_gap
  unfold W_nth_gap at h
  obtain ⟨o_2, h⟩ := h
  refine seq_i (st_asg (B := []) (ED.i (ed_call hc (ea_cons (ED.o (ei_var (i := 0) coinage rfl)) ea_nil) (fun K E h => (Gy.w_gaps_many o_2) h))) h fun many_1 S1 k1 h => ?_)
  have k0 := hBR.st k0 k1
  have hc := hc.st k1
  show (_ : DS) _ [some (e (coinage : ((List Int) × (List Int)))), some (e (number : D)), some (e (many_1 : (Option Int))), none, none, none] _
  unfold d_nth_gap_5
  obtain ⟨o_6, o_7, h⟩ := h
  refine seq_i (st_if (B := []) (eb_or (eb_not (eb_tru (ei_isInt (ei_var (i := 1) number rfl) o_6))) (fun hx_5 => (eb_or (eb_b (ei_lt (ei_toI (ei_var (i := 1) number rfl) (o_7 hx_5).1) (ei_c (0 : Int) rfl))) (fun hx_4 => (eb_and (eb_b (ei_isNN (ei_var (i := 2) many_1 rfl))) (fun hx_3 => (eb_b (ei_ge (ei_toI (ei_var (i := 1) number rfl) (((o_7 hx_5).2 hx_4) hx_3).2) (ei_get (ei_var (i := 2) many_1 rfl) (((o_7 hx_5).2 hx_4) hx_3).1))))))))) h (fun S1 k1 hb_ h => ?_) (fun S1 k1 hb_ h => ?_))
  · have k0 := hBR.st k0 k1
    have hc := hc.st k1
    refine st_raise0 (B := []) (E := (fun er_ => ∀ S_, Ext S0 S_ → EP er_ S_)) h (fun er_ S1_ k1_ h_ => h_ S1_ (St.nil (k0.trans k1_)))
  · have k0 := hBR.st k0 k1
    have hc := hc.st k1
    show (_ : DS) _ [some (e (coinage : ((List Int) × (List Int)))), some (e (number : D)), some (e (many_1 : (Option Int))), none, none, none] _
    show (_ : DS) _ [some (e (coinage : ((List Int) × (List Int)))), some (e (number : D)), some (e (many_1 : (Option Int))), none, none, none] _
    unfold d_nth_gap_4
    refine seq_i (st_tg (B := []) (ED.o (O' := O) (ei_c (0 : Int) rfl)) (ED.o (O' := O) (ei_c (1 : Int) rfl)) h fun q_8 d_9 d_10 S1 k1 r_11 r_12 h => ?_)
    cases r_11
    cases r_12
    have k0 := hBR.st k0 k1
    have hc := hc.st k1
    show (_ : DS) _ [some (e (coinage : ((List Int) × (List Int)))), some (e (number : D)), some (e (many_1 : (Option Int))), some (e (q_8.1 : Int)), some (e (q_8.2 : Int)), none] _
    unfold d_nth_gap_3
    skip
    refine seq_i (st_while (fun (s_13 : Int) (ρ_ : Nv) (S_ : Sto) => ρ_ = [some (e (coinage : ((List Int) × (List Int)))), some (e (number : D)), some (e (many_1 : (Option Int))), some (e (q_8.1 : Int)), some (e (s_13 : Int)), none] ∧ (St [] S0) S_ ∧ Cx [] (O) S_) ⟨rfl, k0, hc⟩ h fun s_13 next_14 ρ_ S1 Kx_ a_ h kxw_15 => ?_)
    obtain ⟨rfl, k0, hc⟩ := a_
    obtain ⟨o_16, o_17, h⟩ := h
    refine wh_test (B := []) (eb_b (ei_le (ED.i (ed_call hc (ea_cons (ED.o (ei_var (i := 0) coinage rfl)) (ea_cons (ED.o (ei_var (i := 4) s_13 rfl)) ea_nil)) (fun K E h => (Gy.w_gaps_below o_16) h))) (ei_toI (ei_var (i := 1) number rfl) o_17))) h (fun S1 k1 hb_ h => ?_) (fun S1 k1 hb_ h => ?_)
    · have k0 := hBR.st k0 k1
      have hc := hc.st k1
      show (_ : DS) _ [some (e (coinage : ((List Int) × (List Int)))), some (e (number : D)), some (e (many_1 : (Option Int))), some (e (q_8.1 : Int)), some (e (s_13 : Int)), none] _
      obtain ⟨o_19, h⟩ := h
      refine st_asg (B := []) (ei_mul (ei_c (2 : Int) rfl) (ei_var (i := 4) s_13 rfl) o_19) h fun high_18 S1 k1 h => ?_
      have k0 := hBR.st k0 k1
      have hc := hc.st k1
      exact kxw_15 high_18 _ _ h ⟨rfl, k0, hc⟩
    · have k0 := hBR.st k0 k1
      have hc := hc.st k1
      show (_ : DS) _ [some (e (coinage : ((List Int) × (List Int)))), some (e (number : D)), some (e (many_1 : (Option Int))), some (e (q_8.1 : Int)), some (e (s_13 : Int)), none] _
      unfold d_nth_gap_2
      skip
      refine seq_i (st_while (fun (s_20 : Int × Int) (ρ_ : Nv) (S_ : Sto) => ∃ (o_middle_21 : Option D) , ρ_ = [some (e (coinage : ((List Int) × (List Int)))), some (e (number : D)), some (e (many_1 : (Option Int))), some (e (s_20.1 : Int)), some (e (s_20.2 : Int)), o_middle_21] ∧ (St [] S0) S_ ∧ Cx [] (O) S_) ⟨none, rfl, k0, hc⟩ h fun s_20 next_22 ρ_ S1 Kx_ a_ h kxw_23 => ?_)
      obtain ⟨o_middle_21, rfl, k0, hc⟩ := a_
      refine wh_test (B := []) (eb_b (ei_lt (ei_add (ei_var (i := 3) s_20.1 rfl) (ei_c (1 : Int) rfl)) (ei_var (i := 4) s_20.2 rfl))) h (fun S1 k1 hb_ h => ?_) (fun S1 k1 hb_ h => ?_)
      · have k0 := hBR.st k0 k1
        have hc := hc.st k1
        show (_ : DS) _ [some (e (coinage : ((List Int) × (List Int)))), some (e (number : D)), some (e (many_1 : (Option Int))), some (e (s_20.1 : Int)), some (e (s_20.2 : Int)), o_middle_21] _
        obtain ⟨o_25, h⟩ := h
        refine seq_i (st_asg (B := []) (ei_fdiv (ei_add (ei_var (i := 3) s_20.1 rfl) (ei_var (i := 4) s_20.2 rfl)) (ei_c (2 : Int) rfl) o_25) h fun middle_24 S1 k1 h => ?_)
        have k0 := hBR.st k0 k1
        have hc := hc.st k1
        show (_ : DS) _ [some (e (coinage : ((List Int) × (List Int)))), some (e (number : D)), some (e (many_1 : (Option Int))), some (e (s_20.1 : Int)), some (e (s_20.2 : Int)), some (e (middle_24 : Int))] _
        unfold d_nth_gap_1
        obtain ⟨o_26, o_27, h⟩ := h
        try dsimp only
        refine st_join (fun (s_29 : Int × Int) (ρ_ : Nv) (S_ : Sto) => ρ_ = [some (e (coinage : ((List Int) × (List Int)))), some (e (number : D)), some (e (many_1 : (Option Int))), some (e (s_29.1 : Int)), some (e (s_29.2 : Int)), some (e (middle_24 : Int))] ∧ (St [] S0) S_ ∧ Cx [] (O) S_) h (fun s_29 ρ_ S1 h a_ => ?_) (fun k_j_28 h kk_ => ?_)
        · obtain ⟨rfl, k0, hc⟩ := a_
          exact kxw_23 (s_29.1, s_29.2) _ _ h ⟨some (e (middle_24 : Int)), rfl, k0, hc⟩
        · refine st_if (B := []) (eb_b (ei_le (ED.i (ed_call hc (ea_cons (ED.o (ei_var (i := 0) coinage rfl)) (ea_cons (ED.o (ei_var (i := 5) middle_24 rfl)) ea_nil)) (fun K E h => (Gy.w_gaps_below o_26) h))) (ei_toI (ei_var (i := 1) number rfl) o_27))) h (fun S1 k1 hb_ h => ?_) (fun S1 k1 hb_ h => ?_)
          · have k0 := hBR.st k0 k1
            have hc := hc.st k1
            refine st_asg (B := []) (ei_var (i := 5) middle_24 rfl) h fun low_30 S1 k1 h => ?_
            have k0 := hBR.st k0 k1
            have hc := hc.st k1
            exact kk_ (low_30, s_20.2) _ _ h ⟨rfl, k0, hc⟩
          · have k0 := hBR.st k0 k1
            have hc := hc.st k1
            refine st_asg (B := []) (ei_var (i := 5) middle_24 rfl) h fun high_31 S1 k1 h => ?_
            have k0 := hBR.st k0 k1
            have hc := hc.st k1
            exact kk_ (s_20.1, high_31) _ _ h ⟨rfl, k0, hc⟩
      · have k0 := hBR.st k0 k1
        have hc := hc.st k1
        show (_ : DS) _ [some (e (coinage : ((List Int) × (List Int)))), some (e (number : D)), some (e (many_1 : (Option Int))), some (e (s_20.1 : Int)), some (e (s_20.2 : Int)), o_middle_21] _
        first | (unfold dNext; dsimp only) | dsimp only | skip
        refine (st_ret (B := []) (ei_var (i := 3) s_20.1 rfl) h fun v d S1 k1 r h => h d S1 (St.nil (k0.trans k1)) r)
open Classical in
def gapAt (vals : List Int) (n : Nat) : Int := if h : ∃ x : Nat, Px.G vals x ≤ n ∧ n < Px.G vals (x + 1) then (h.choose : Int) else 0
theorem gapAt_eq {vals : List Int} {n x : Nat} (h1 : Px.G vals x ≤ n) (h2 : n < Px.G vals (x + 1)) : gapAt vals n = (x : Int) := by
  unfold gapAt
  have hx : ∃ x : Nat, Px.G vals x ≤ n ∧ n < Px.G vals (x + 1) := ⟨x, h1, h2⟩
  rw [dif_pos hx]
  obtain ⟨h3, h4⟩ := hx.choose_spec
  generalize hx.choose = y at h3 h4
  rcases Nat.lt_trichotomy x y with c | c | c
  · have := Px.G_mono vals (show x + 1 ≤ y by omega); omega
  · rw [c]
  · have := Px.G_mono vals (show y + 1 ≤ x by omega); omega
def badN (coinage : List Int × List Int) (number : D) : Bool := ((!(isI number)) || ((decide ((toI number) < (0 : Int))) || (((Gy.F_gaps_many coinage)).isSome && (decide (((Gy.F_gaps_many coinage).getD default) ≤ (toI number))))))
def F_nth_gap (coinage : List Int × List Int) (number : D) : Except Exc Int := if badN coinage number = true then .error ⟨"Nothing", []⟩ else .ok (gapAt coinage.1 (toI number).toNat)
structure ok_nth_gap (coinage : List Int × List Int) (number : D) : Prop where
  c : ∃ m vs, Cv coinage m vs
  v : IsV number
  i : isI number = true → IsIn number
  g : Gy.ok_gaps_many coinage
  x : badN coinage number = false → ∃ X : Nat, X ≤ 1000000 ∧ (toI number).toNat < Px.G coinage.1 X
theorem w_nth_gap {coinage : List Int × List Int} {number : D} (o : ok_nth_gap coinage number) {K : Int → Prop} {E : Exc → Prop} (h : wRes (F_nth_gap coinage number) K E) : W_nth_gap coinage number K E := by
  obtain ⟨m, vs, C⟩ := o.c
  unfold F_nth_gap at h
  unfold W_nth_gap
  refine ⟨o.g, ?_⟩
  show IsV number ∧ _ ∧ wIf (badN coinage number) _ _
  refine ⟨o.v, fun hi => ?_, wIf_i (fun c => ?_) fun c => ?_⟩
  · have := o.i (by simpa using hi)
    exact ⟨this, fun _ hs => ⟨hs, this⟩⟩
  · rw [if_pos c] at h; exact h
  · rw [if_neg (by rw [c]; exact Bool.false_ne_true)] at h
    have h : K (gapAt coinage.1 (toI number).toNat) := h
    obtain ⟨X, hX, hG⟩ := o.x c
    have c' := c
    unfold badN at c'
    rw [Bool.or_eq_false_iff, Bool.or_eq_false_iff] at c'
    have hI : IsIn number := o.i (by simpa using c'.1)
    have hn0 : 0 ≤ toI number := by have := of_decide_eq_false c'.2.1; omega
    generalize hn : (toI number).toNat = n at *
    have hnn : toI number = (n : Int) := by omega
    have gb : ∀ x : Int, 0 ≤ x → (Gy.F_gaps_below coinage x ≤ toI number ↔ Px.G coinage.1 x.toNat ≤ n) := fun x hx => by
      have := gb_eq C x.toNat
      rw [Int.toNat_of_nonneg hx] at this
      rw [this, hnn]; omega
    have okb : ∀ x : Int, 0 ≤ x → Gy.ok_gaps_below coinage x := fun x hx => ⟨⟨m, vs, C⟩, hx⟩
    simp only [wAp]
    refine ⟨fun k s => (1 ≤ s ∧ s ≤ 2 * X) ∧ k = (X - s).toNat, ⟨_, ⟨by decide, ?_⟩, rfl⟩, fun k s hs => ?_⟩
    · rcases Nat.eq_zero_or_pos X with z | z
      · rw [z] at hG; exact absurd hG (by simp [Px.G])
      · show (1 : Int) ≤ 2 * X; omega
    · obtain ⟨⟨h1, h2⟩, rfl⟩ := hs
      refine ⟨okb _ (by omega), hI, wIf_i (fun c2 => ?_) fun c2 => ?_⟩
      · have h3 := (gb s (by omega)).mp (of_decide_eq_true c2)
        have h4 : s < X := by
          rcases Int.lt_or_le s X with z | z
          · exact z
          · have := Px.G_mono coinage.1 (show X ≤ s.toNat by omega); omega
        exact ⟨cmL (by decide) (by decide), _, by omega, ⟨by omega, by omega⟩, rfl⟩
      · have h3 : n < Px.G coinage.1 s.toNat := by
          have h3 := of_decide_eq_false c2
          rw [gb s (by omega)] at h3
          omega
        refine ⟨fun k t => (0 ≤ t.1 ∧ t.1 < t.2 ∧ t.2 ≤ 2 * X ∧ Px.G coinage.1 t.1.toNat ≤ n ∧ n < Px.G coinage.1 t.2.toNat) ∧ k = (t.2 - t.1).toNat, ⟨_, ⟨Int.le_refl _, by show (0 : Int) < s; omega, h2, Nat.zero_le _, h3⟩, rfl⟩, fun k t ht => ?_⟩
        obtain ⟨⟨e1, e2, e3, e4, e5⟩, rfl⟩ := ht
        obtain ⟨lo, hi⟩ := t
        dsimp only at e1 e2 e3 e4 e5 ⊢
        refine wIf_i (fun c3 => ?_) fun c3 => ?_
        · have c3 := of_decide_eq_true c3
          refine ⟨cdiv (by decide) (by decide), okb _ (by omega), hI, wIf_i (fun c4 => ?_) fun c4 => ?_⟩
          · have h5 := (gb ((lo + hi) / 2) (by omega)).mp (of_decide_eq_true c4)
            exact ⟨_, by show (hi - (lo + hi) / 2).toNat < _; omega, ⟨by show 0 ≤ (lo + hi) / 2; omega, by show (lo + hi) / 2 < hi; omega, e3, h5, e5⟩, rfl⟩
          · have h5 := of_decide_eq_false c4
            rw [gb ((lo + hi) / 2) (by omega)] at h5
            exact ⟨_, by show ((lo + hi) / 2 - lo).toNat < _; omega, ⟨e1, by show lo < (lo + hi) / 2; omega, by show (lo + hi) / 2 ≤ 2 * X; omega, e4, by show n < Px.G coinage.1 ((lo + hi) / 2).toNat; omega⟩, rfl⟩
        · have c3 := of_decide_eq_false c3
          show K lo
          have e6 : hi.toNat = lo.toNat + 1 := by omega
          rw [e6] at e5
          rw [gapAt_eq e4 e5, Int.toNat_of_nonneg e1] at h
          exact h
def d__law_paid_1 (EP : Exc → Sto → Prop) : DS :=
  (dSeq (dFor (iRng2 (dCons (dC (.int 1)) (dCons (dOp dAdd (dVar 1) (dC (.int 1))) dNil))) (gSet 3) (dDrop (dBM "list" dAppend (dVar 2) (dCons (dOp dNe (dLc (iAny (dVar 0)) (gSet 4) (dAndT (dB (dOp (dCmpI (fun i j => decide (i ≤ j))) (dVar 4) (dVar 3))) (dTru (dOp dIx (dVar 2) (dOp dSub (dVar 3) (dVar 4))))) (dC (.int 1)) [4]) (dLst dNil)) dNil))))
  (dRet (dVar 2)))
def d__law_paid (EP : Exc → Sto → Prop) : DS :=
  (dSeq (dAsg (dLst (dCons (dC (.bl true)) dNil)) (gSet 2))
  (d__law_paid_1 EP))
def W__law_paid (values : (List Int)) (most : Int) (K : (List Bool) → Prop) (E : Exc → Prop) : Prop :=
  wAp (fun found_1 : (List Bool) => (-(2 ^ 62) ≤ (1 : Int) ∧ (1 : Int) < 2 ^ 62 ∧ -(2 ^ 62) ≤ (most + (1 : Int)) ∧ (most + (1 : Int)) < 2 ^ 62) ∧ wFor (rngI (1 : Int) (most + (1 : Int))) found_1 (fun (amount_3 : Int) (s_2 : (List Bool)) (next_9 : ((List Bool)) → Prop) => (values).length ≤ sizeLine ∧ (∀ value_16 ∈ values, ((decide (value_16 ≤ amount_3)) = true → (0 ≤ (amount_3 - value_16) ∧ (amount_3 - value_16) < (s_2).length))) ∧ (s_2).length < sizeLine ∧ wAp (fun found_19 : (List Bool) => next_9 found_19) (s_2 ++ [(decide ((((values).filter (fun value_16 : Int => ((decide (value_16 ≤ amount_3)) && (gI s_2 (amount_3 - value_16))))).map (fun value_16 : Int => (1 : Int))) ≠ ([] : (List Int))))])) (fun s_2 : (List Bool) => wAp K s_2)) ((true :: []) : (List Bool))
def sp__law_paid : FSp := spN (RepL.cons (v (List Int)) (RepL.cons (v Int) RepL.nil)) (lst (v Bool)) (fun x K E => W__law_paid x.1 x.2.1 K E)
theorem len__law_paid : ∀ ds S P EP, sp__law_paid ds S P EP → ds.length = 2 := by
  rintro _ S P EP ⟨O, x, hc, ⟨_, _, rfl, _, ⟨_, _, rfl, _, rfl⟩⟩, _⟩
  rfl
theorem pure__law_paid : ∀ ds S Q EP, sp__law_paid ds S Q EP → d__law_paid EP { nx := fun _ S' => Q .non S', rt := Q } (startD 5 ds) S := by
  rintro _ S0 Q EP ⟨O, ⟨values, most, _⟩, hc, ⟨_, _, rfl, rfl, ⟨_, _, rfl, rfl, rfl⟩⟩, h⟩
  have hc0 : Cx [] [] S0 := Cx.nil
  have k0 := St.refl [] S0
  have hBR := BR.top hc0
  change W__law_paid values most _ _ at h
  show (_ : DS) _ [some (e (values : (List Int))), some (e (most : Int)), none, none, none] _
  unfold d__law_paid
  unfold W__law_paid at h
  refine seq_i (st_asgC (B := []) (EN.fr (en_lst hc (er_cons (ED.o (ei_c true rfl)) er_nil) (szl (by decide : 1 ≤ 1000))) hc) h fun found_1 d_ S1 k1 r_found_1 h => ?_)
  obtain ⟨r_found_1, p_found_1, rfl, n_found_1⟩ := r_found_1
  have z_found_1 := hBR.new k0 hc.b n_found_1
  have hc := Cx.cons hc k1 n_found_1 (lst_ne r_found_1)
  have k0 := hBR.st k0 k1
  show (_ : DS) _ [some (e (values : (List Int))), some (e (most : Int)), some (.ref p_found_1), none, none] _
  unfold d__law_paid_1
  obtain ⟨o_5, h⟩ := h
  refine seq_i (st_for (B := []) (fun (S2_ : Sto) (s_2 : (List Bool)) (ρ_ : Nv) (S_ : Sto) => ∃ (o_amount_4 : Option D) , ρ_ = [some (e (values : (List Int))), some (e (most : Int)), some (.ref p_found_1), o_amount_4, none] ∧ (St [] S0) S_ ∧ Cx [] (p_found_1 :: O) S_ ∧ (exR (ct [] (p_found_1 :: O) S2_)).r (ct [] (p_found_1 :: O) S_) () .non ∧ (lst (v Bool)).r (ct [] (O) S_) s_2 (.ref p_found_1)) (it_rng2 (O := p_found_1 :: O) (ei_c (1 : Int) rfl) (ei_add (ei_var (i := 1) most rfl) (ei_c (1 : Int) rfl)) o_5) h (fun S1 k1 => ⟨none, rfl, hBR.st k0 k1, hc.st k1, Ext.refl _, Rep.mono _ (ct_st k1) r_found_1⟩) (fun S2_ s_ ρ_ S_ a_ => by obtain ⟨_, _, _, _, hOwn_, _⟩ := a_; exact hOwn_) (fun S2_7 k2_ amount_3 hx_ d_ s_2 next_ ρ_ S1 Kx_ a_ rx_ h kx_ => ?_) (fun S2_ s_2 ρ_ S1 k2_ h a_ => ?_))
  · obtain ⟨o_amount_4, rfl, k0, hc, hE_6, r_found_1⟩ := a_
    cases rx_
    refine eg_set _ _ ?_
    show (_ : DS) _ [some (e (values : (List Int))), some (e (most : Int)), some (.ref p_found_1), some (e (amount_3 : Int)), none] _
    obtain ⟨o_20, o_21, o_22, h⟩ := h
    refine st_append (B := []) (O := O) rfl r_found_1 (ED.o (el_ne (EN.ed (en_lc (R := (v Int)) (fun value_16 : Int => ((decide (value_16 ≤ amount_3)) && (gI s_2 (amount_3 - value_16)))) (fun value_16 : Int => (1 : Int)) hc (it_any (es_tup (O := p_found_1 :: O) (ei_var (i := 0) values rfl))) o_20 (fun value_16 hx_12 d_13 S_15 k_11 r_14 => by cases r_14; exact ⟨[some (e (values : (List Int))), some (e (most : Int)), some (.ref p_found_1), some (e (amount_3 : Int)), some (e (value_16 : Int))], eg_set, (eb_and (eb_b (ei_le (ei_var (i := 4) value_16 rfl) (ei_var (i := 3) amount_3 rfl))) (fun hx_17 => (eb_tru (ei_atL (ed_var (i := 2) s_2 rfl (Rep.mono _ (ct_st k_11) r_found_1)) (ei_sub (ei_var (i := 3) amount_3 rfl) (ei_var (i := 4) value_16 rfl)) ((o_21 value_16 hx_12) hx_17))))), fun hx_18 => (ED.o (ei_c (1 : Int) rfl))⟩))) (EN.ed (en_lst hc (er_nil (R := (v Int))) (szl (by decide)))))) o_22 h fun found_19 S1 c_ k1 r_found_1 h => ?_
    have hE_6 := Rep.mono _ (ct_mutst (c := c_) (List.Mem.head _) k1) hE_6
    have hc := Cx.mutB (c := c_) (hc.st k1) hBR (hBR.st k0 k1) z_found_1
    have k0 := hBR.mt c_ (hBR.st k0 k1) z_found_1
    exact kx_ found_19 _ _ h ⟨some (e (amount_3 : Int)), rfl, k0, hc, hE_6, r_found_1⟩
  · obtain ⟨o_amount_4, rfl, k0, hc, HOWN_, r_found_1⟩ := a_
    show (_ : DS) _ [some (e (values : (List Int))), some (e (most : Int)), some (.ref p_found_1), o_amount_4, none] _
    exact ⟨_, rfl, h _ _ (St.nil k0) (Rep.mono _ (ct_mono (fun a m => m)) r_found_1) ⟨_, rfl, z_found_1⟩⟩
open Classical in
def F__law_paid (values : List Int) (most : Int) : List Bool := (List.range (most + 1).toNat).map fun a : Nat => decide (Px.Pay values (a : Int))
structure ok__law_paid (values : List Int) (most : Int) : Prop where
  few : values.length ≤ 1000
  pos : ∀ v ∈ values, 0 < v
  m0 : 0 ≤ most
  m1 : most ≤ 1000000
open Classical in
theorem w__law_paid {values : List Int} {most : Int} (o : ok__law_paid values most) {K : List Bool → Prop} {E : Exc → Prop} (h : K (F__law_paid values most)) : W__law_paid values most K E := by
  have hm0 := o.m0
  have hm1 := o.m1
  unfold W__law_paid
  have hlr : (rngI (1 : Int) (most + (1 : Int))).length = most.toNat := by rw [len_rng]; omega
  refine ⟨⟨by decide, by decide, by omega, by omega⟩, wFor_of (fun pre s => s = (List.range (pre.length + 1)).map fun a : Nat => decide (Px.Pay values (a : Int))) ?_ (fun pre amount post s next hx hI go => ?_) fun s hs => ?_⟩
  · show [true] = [decide (Px.Pay values ((0 : Nat) : Int))]
    rw [decide_eq_true (show Px.Pay values ((0 : Nat) : Int) from .zero)]
  · have hlen : pre.length < most.toNat := by
      rw [← hlr, hx, List.length_append]; simp only [List.length_cons]; omega
    have ham : amount = 1 + (pre.length : Int) := by
      have h1 : (rngI (1 : Int) (most + (1 : Int)))[pre.length]? = some amount := by rw [hx, List.getElem?_append_right (Nat.le_refl _), Nat.sub_self]; rfl
      unfold rngI at h1
      rw [List.getElem?_map, List.getElem?_range (by omega)] at h1
      exact (Option.some.inj h1).symm
    have hsl : s.length = pre.length + 1 := by rw [hI, List.length_map, List.length_range]
    have hg : ∀ x : Int, 0 ≤ x → x ≤ pre.length → gI s x = decide (Px.Pay values x) := fun x h0 h1 => by
      unfold gI
      rw [hI, List.getElem?_map, List.getElem?_range (by omega)]
      show decide (Px.Pay values ((x.toNat : Nat) : Int)) = _
      rw [Int.toNat_of_nonneg h0]
    refine ⟨line (Nat.le_trans o.few (by decide)), fun v hv hle => ?_, lineI (by omega), go _ ?_⟩
    · have := o.pos v hv
      have := of_decide_eq_true hle
      exact ⟨by omega, by omega⟩
    · rw [List.length_append, List.length_singleton, List.range_succ, List.map_append, ← hI]
      refine congrArg (s ++ ·) ?_
      rw [List.map_singleton]
      refine congrArg (fun b => [b]) ?_
      rw [Bool.eq_iff_iff, decide_eq_true_eq, decide_eq_true_eq, show ((pre.length + 1 : Nat) : Int) = amount by omega]
      constructor
      · intro hne
        have : ∃ v ∈ values, (decide (v ≤ amount) && gI s (amount - v)) = true := by
          rcases Classical.em (∃ v ∈ values, (decide (v ≤ amount) && gI s (amount - v)) = true) with d | d
          · exact d
          · exact absurd (List.map_eq_nil_iff.mpr (List.filter_eq_nil_iff.mpr fun v hv hb => d ⟨v, hv, hb⟩)) hne
        obtain ⟨v, hv, hb⟩ := this
        rw [Bool.and_eq_true, decide_eq_true_eq] at hb
        have := o.pos v hv
        rw [hg _ (by omega) (by omega)] at hb
        have := (of_decide_eq_true hb.2).step hv
        rwa [show amount - v + v = amount by omega] at this
      · intro hp hnil
        rcases Px.pay_last hp with z | ⟨v, hv, hp'⟩
        · omega
        · have h0 := hp'.nonneg o.pos
          have := o.pos v hv
          have := List.filter_eq_nil_iff.mp (List.map_eq_nil_iff.mp hnil) v hv
          rw [hg _ h0 (by omega), decide_eq_true hp', Bool.and_true, decide_eq_true_eq] at this
          omega
  · show K s
    rw [hs, hlr]
    unfold F__law_paid at h
    rwa [show (most + 1).toNat = most.toNat + 1 by omega] at h
end
end Gy
set_option Elab.async false
set_option linter.all false
set_option maxRecDepth 100000
set_option maxHeartbeats 4000000
namespace Hr
open PySem DL L2 TY
open En (e)
open Pa Pw Px Gy
noncomputable section
theorem sl_neg {α : Type} {xs : List α} {k : Int} (h0 : 0 < k) (h1 : k ≤ xs.length) : sl xs (some (-k)) none = xs.drop (xs.length - k.toNat) := by
  have e1 : HT.sIx xs.length 0 (some (-k)) = xs.length - k.toNat := by
    show (if -k < 0 then (-k + (xs.length : Int)).toNat else min (-k).toNat xs.length) = _
    rw [if_pos (by omega)]; omega
  unfold sl
  rw [e1]
  show (xs.drop (xs.length - k.toNat)).take (xs.length - (xs.length - k.toNat)) = _
  exact List.take_of_length_le (by rw [List.length_drop]; omega)
theorem nth_fil {p : Nat → Bool} : ∀ (N i x : Nat), ((List.range N).filter p)[i]? = some x → x < N ∧ p x = true ∧ (List.range x).countP p = i
  | 0, i, x, h => by simp at h
  | N + 1, i, x, h => by
    rw [List.range_succ, List.filter_append] at h
    have hl : ((List.range N).filter p).length = (List.range N).countP p := List.countP_eq_length_filter.symm
    by_cases c : i < ((List.range N).filter p).length
    · rw [List.getElem?_append_left c] at h
      obtain ⟨h1, h2⟩ := nth_fil N i x h
      exact ⟨by omega, h2⟩
    · rw [List.getElem?_append_right (by omega)] at h
      by_cases d : p N = true
      · rw [List.filter_cons_of_pos d, List.filter_nil] at h
        rw [List.getElem?_singleton] at h
        split at h
        · cases h
          exact ⟨by omega, d, by omega⟩
        · cases h
      · rw [List.filter_cons_of_neg d, List.filter_nil] at h
        simp at h
open Classical in
def gL (vals : List Int) (N : Nat) : List Nat := (List.range N).filter fun a : Nat => decide (¬ Pay vals (a : Int))
open Classical in
theorem gL_len (vals : List Int) (N : Nat) : (gL vals N).length = G vals N := List.countP_eq_length_filter.symm
open Classical in
theorem gL_mem {vals : List Int} {N x : Nat} : x ∈ gL vals N ↔ x < N ∧ ¬ Pay vals (x : Int) := by
  unfold gL
  rw [List.mem_filter, List.mem_range, decide_eq_true_eq]
open Classical in
theorem gL_at {vals : List Int} {N i x : Nat} (h : (gL vals N)[i]? = some x) : gapAt vals i = (x : Int) := by
  obtain ⟨h1, h2, h3⟩ := nth_fil N i x h
  have h3 : G vals x = i := h3
  have h2 : ¬ Pay vals (x : Int) := of_decide_eq_true h2
  refine gapAt_eq (by omega) ?_
  rw [G_succ, if_neg h2]; omega
theorem gL_lt (vals : List Int) (N : Nat) : (gL vals N).Pairwise (· < ·) := List.pairwise_lt_range.filter _
theorem last_ge {l : List Nat} (h : l.Pairwise (· < ·)) {x y : Nat} (hx : l.getLast? = some x) (hy : y ∈ l) : y ≤ x := by
  obtain ⟨ys, rfl⟩ := List.getLast?_eq_some_iff.mp hx
  rcases List.mem_append.mp hy with hy | hy
  · exact Nat.le_of_lt ((List.pairwise_append.mp h).2.2 y hy x (by simp))
  · rw [List.mem_singleton] at hy; omega
open Classical in
theorem paid_gaps (vals : List Int) (most : Int) : ((enumI (F__law_paid vals most)).filter fun q : Int × Bool => !q.2).map (fun q : Int × Bool => q.1) = (gL vals (most + 1).toNat).map fun x : Nat => (x : Int) := by
  unfold F__law_paid gL
  rw [enum_range, List.filter_map, List.map_map]
  have : ((fun q : Int × Bool => !q.2) ∘ fun r : Nat => ((r : Int), decide (Pay vals (r : Int)))) = fun a : Nat => decide (¬ Pay vals (a : Int)) := by
    funext r
    show (!decide (Pay vals (r : Int))) = _
    by_cases h : Pay vals (r : Int)
    · rw [decide_eq_true h, decide_eq_false (fun k => k h)]; rfl
    · rw [decide_eq_false h, decide_eq_true h]; rfl
  rw [this]
  rfl
structure Cw (c : List Int × List Int) (m : Int) (vs : List Int) (B : Int) : Prop where
  C : Cv c m vs
  b : ∀ v ∈ c.1, v ≤ B
  b0 : 0 < B
  b1 : B ≤ 200
  mb : m ≤ B
section
variable {c : List Int × List Int} {m B : Int} {vs : List Int}
theorem Cw.pos (W : Cw c m vs B) : ∀ v ∈ c.1, 0 < v := fun v hv => by
  rw [W.C.eq] at hv
  rcases List.mem_cons.mp hv with rfl | hv
  · exact W.C.m0
  · exact W.C.ps v hv
theorem Cw.okU (W : Cw c m vs B) : Gk.ok_unit_of c := fun v hv => Int.le_of_lt (W.pos v hv)
theorem Cw.one (W : Cw c m vs B) (hg : ¬ 1 < Gk.F_unit_of c) : Gk.gcdL (m :: vs) 0 = 1 := by
  have h1 : Gk.F_unit_of c = Gk.gcdL (m :: vs) 0 := by unfold Gk.F_unit_of; rw [W.C.eq]
  rw [h1] at hg
  have h2 : Gk.gcdL (m :: vs) 0 ∣ m := (gcdL_dvd (m :: vs) 0 (Int.le_refl _)).2 m (by simp)
  have nn : ∀ (us : List Int) (f : Int), 0 ≤ f → 0 ≤ Gk.gcdL us f := by
    intro us
    induction us with
    | nil => exact fun f hf => hf
    | cons v r ih => exact fun f hf => ih _ (by omega)
  have h3 := nn (m :: vs) 0 (Int.le_refl _)
  have h4 : Gk.gcdL (m :: vs) 0 ≠ 0 := fun h => by
    rw [h] at h2
    obtain ⟨k, hk⟩ := h2
    rw [Int.zero_mul] at hk
    have := W.C.m0; omega
  omega
theorem met (W : Cw c m vs B) (hg : ¬ 1 < Gk.F_unit_of c) {r : Nat} (hr : r < m.toNat) : ∃ l, LA vs m (r : Int) = some l ∧ 0 ≤ l ∧ l ≤ (m - 1) * B ∧ l % m = (r : Int) := by
  obtain ⟨l, h1, h2⟩ := all_met (r := (r : Int)) W.C.m0 W.C.ps (fun v hv => W.b v (by rw [W.C.eq]; exact List.mem_cons_of_mem _ hv)) (Int.le_of_lt W.b0) (W.one hg) ⟨by omega, by omega⟩
  obtain ⟨h3, h4, _⟩ := LA_some h1
  exact ⟨l, h1, h3.nonneg W.C.ps, h2, h4⟩
theorem Cw.big (W : Cw c m vs B) : (m - 1) * B + m ≤ m * B + B ∧ 0 ≤ (m - 1) * B ∧ m * B + B ≤ 100000 := by
  have h1 := W.mb
  have h2 := W.b0
  have h3 := W.b1
  have h4 := W.C.m0
  have e1 : (m - 1) * B = m * B - B := by rw [Int.sub_mul, Int.one_mul]
  have e2 : m * B ≤ 200 * 200 := Int.mul_le_mul (by omega) h3 (by omega) (by decide)
  have e3 : 0 ≤ (m - 1) * B := Int.mul_nonneg (by omega) (by omega)
  omega
theorem pays (W : Cw c m vs B) (hg : ¬ 1 < Gk.F_unit_of c) {a : Int} (ha : (m - 1) * B ≤ a) : Pay c.1 a := by
  have hm := W.C.m0
  have h0 := W.big
  have e0 := Int.emod_nonneg a (show m ≠ 0 by omega)
  have e1 := Int.emod_lt_of_pos a hm
  obtain ⟨l, h1, h2, h3, h4⟩ := met W hg (r := (a % m).toNat) (by omega)
  rw [W.C.eq]
  exact (pay_iff hm W.C.ps).mpr ⟨l, by rw [Int.toNat_of_nonneg e0] at h1; exact h1, by omega⟩
theorem okGM (W : Cw c m vs B) : Gy.ok_gaps_many c := by
  refine ⟨W.okU, fun _ => trivial, fun hg => ⟨okLA W.C, ?_, fun o ho => ?_, trivial⟩⟩
  · rw [la_eq W.C, List.length_map, List.length_range]
    exact line (by have := W.C.m1; omega)
  · have hg := of_decide_eq_false hg
    rw [la_eq W.C] at ho
    obtain ⟨r, hr, rfl⟩ := List.mem_map.mp ho
    obtain ⟨l, h1, h2, h3, h4⟩ := met W hg (List.mem_range.mp hr)
    rw [h1]
    exact ⟨W.C.len, rfl, by rw [W.C.gi]; exact cdiv W.C.m0 (by have := W.C.m1; omega)⟩
theorem okGG (W : Cw c m vs B) : Gy.ok_greatest_gap c := by
  refine ⟨W.okU, fun _ => trivial, fun hg => ⟨okLA W.C, fun o ho => ?_, ?_, W.C.len, by simp, trivial⟩⟩
  · have hg := of_decide_eq_false hg
    rw [la_eq W.C] at ho
    obtain ⟨r, hr, rfl⟩ := List.mem_map.mp ho
    obtain ⟨l, h1, _⟩ := met W hg (List.mem_range.mp hr)
    rw [h1]; rfl
  · rw [la_eq W.C]
    intro h
    have := congrArg List.length h
    rw [List.length_map, List.length_map, List.length_range] at this
    have := W.C.m0
    simp at *; omega
theorem gaps_none (hg : 1 < Gk.F_unit_of c) : Gy.F_greatest_gap c = none ∧ Gy.F_gaps_many c = none := by
  unfold Gy.F_greatest_gap Gy.F_gaps_many
  rw [decide_eq_true hg]
  exact ⟨if_pos rfl, if_pos rfl⟩
theorem not_both (W : Cw c m vs B) (hg : 1 < Gk.F_unit_of c) {a : Int} (h1 : Pay c.1 a) (h2 : Pay c.1 (a + 1)) : False := by
  have hd : ∀ v ∈ c.1, Gk.F_unit_of c ∣ v := (gcdL_dvd c.1 0 (Int.le_refl _)).2
  have := Int.dvd_sub (pay_dvd hd h2) (pay_dvd hd h1)
  rw [show a + 1 - a = 1 by omega] at this
  have := Int.le_of_dvd (by decide) this
  omega
theorem many_eq (W : Cw c m vs B) (hg : ¬ 1 < Gk.F_unit_of c) : Gy.F_gaps_many c = some ((gL c.1 (m * B + B + 1).toNat).length : Int) := by
  have hm := W.C.m0
  have hb := W.big
  unfold Gy.F_gaps_many
  rw [decide_eq_false hg, if_neg (by decide), W.C.gi, la_eq W.C, List.map_map, gL_len]
  have h1 := sG_eq (vs := vs) hm W.C.ps (m * B + B + 1).toNat
  rw [← W.C.eq] at h1
  rw [← h1]
  unfold sG
  refine congrArg some (congrArg List.sum (List.map_congr_left fun r hr => ?_))
  have hr := List.mem_range.mp hr
  obtain ⟨l, e1, e2, e3, e4⟩ := met W hg hr
  show ((LA vs m (r : Int)).getD default) / m = _
  unfold fG fst
  rw [e1]
  show l / m = if decide ((r : Int) < min l _) = true then ((min l _ - r + m) - 1) / m else 0
  rw [show min l (((m * B + B + 1).toNat : Nat) : Int) = l by omega, ceil_eq hm ⟨by omega, by omega⟩ e2]
  have e5 := Int.emod_add_mul_ediv l m
  rw [e4] at e5
  have e6 : (l - r + m) - 1 = (m - 1) + m * (l / m) := by omega
  have e7 : (m - 1) / m = 0 := Int.ediv_eq_zero_of_lt (by omega) (by omega)
  rw [e6, Int.add_mul_ediv_left _ _ (by omega), e7, Int.zero_add]
theorem great_eq (W : Cw c m vs B) (hg : ¬ 1 < Gk.F_unit_of c) : Gy.F_greatest_gap c = some (match (gL c.1 (m * B + B + 1).toNat).getLast? with | some x => (x : Int) | none => -1) := by
  have hm := W.C.m0
  have hb := W.big
  unfold Gy.F_greatest_gap
  rw [decide_eq_false hg, if_neg (by decide), W.C.gi, la_eq W.C, List.map_map]
  refine congrArg some ?_
  generalize hL : ((List.range m.toNat).map ((fun x_ : Option Int => x_.getD default) ∘ fun r : Nat => LA vs m (r : Int))) = L
  have hne : L ≠ [] := by
    intro h
    have := congrArg List.length h
    rw [← hL, List.length_map, List.length_range] at this
    simp at this; omega
  have hin : ∀ r : Nat, r < m.toNat → ∀ l, LA vs m (r : Int) = some l → l ∈ L := fun r hr l hl => by
    rw [← hL]
    refine List.mem_map.mpr ⟨r, List.mem_range.mpr hr, ?_⟩
    show (LA vs m (r : Int)).getD default = l
    rw [hl]; rfl
  obtain ⟨r0, hr0, hM⟩ : ∃ r, r < m.toNat ∧ LA vs m (r : Int) = some (mxI L) := by
    have := mxI_mem hne
    rw [← hL] at this
    obtain ⟨r, hr, he⟩ := List.mem_map.mp this
    have hr := List.mem_range.mp hr
    obtain ⟨l, e1, _⟩ := met W hg hr
    refine ⟨r, hr, ?_⟩
    have he : (LA vs m (r : Int)).getD default = mxI _ := he
    rw [hL, e1] at he
    rw [e1]; exact congrArg some he
  obtain ⟨l', e1, e2, e3, e4⟩ := met W hg hr0
  rw [hM] at e1
  cases e1
  have gapM : 0 ≤ mxI L - m → (mxI L - m).toNat ∈ gL c.1 (m * B + B + 1).toNat := fun h0 => gL_mem.mpr ⟨by omega, fun hp => by
    rw [Int.toNat_of_nonneg h0, W.C.eq] at hp
    obtain ⟨l, h1, h2⟩ := (pay_iff hm W.C.ps).mp hp
    rw [Int.sub_emod_right, e4, hM] at h1
    cases h1; omega⟩
  have leM : ∀ x ∈ gL c.1 (m * B + B + 1).toNat, (x : Int) ≤ mxI L - m := fun x hx => by
    obtain ⟨_, h2⟩ := gL_mem.mp hx
    have q0 := Int.emod_nonneg (x : Int) (show m ≠ 0 by omega)
    have q1 := Int.emod_lt_of_pos (x : Int) hm
    obtain ⟨l, h3, h4, h5, h6⟩ := met W hg (r := ((x : Int) % m).toNat) (by omega)
    have h7 := mxI_le (hin _ (by omega) l h3)
    rw [Int.toNat_of_nonneg q0] at h3 h6
    have h8 : (x : Int) < l := by
      rcases Int.lt_or_le (x : Int) l with z | z
      · exact z
      · exact absurd (by rw [W.C.eq]; exact (pay_iff hm W.C.ps).mpr ⟨l, h3, z⟩) h2
    have h9 : (l - x) % m = 0 := Int.emod_eq_emod_iff_emod_sub_eq_zero.mp h6
    obtain ⟨k, hk⟩ := Int.dvd_of_emod_eq_zero h9
    have : 1 ≤ k := by
      rcases Int.lt_or_le 0 k with z | z
      · omega
      · have := Int.mul_nonpos_of_nonneg_of_nonpos (Int.le_of_lt hm) z; omega
    have := Int.mul_le_mul_of_nonneg_left this (Int.le_of_lt hm)
    omega
  have e5 : mxI [-1, mxI L - m] = max (-1) (mxI L - m) := rfl
  rw [e5]
  cases hl : (gL c.1 (m * B + B + 1).toNat).getLast? with
  | none =>
    have hnil := List.getLast?_eq_none_iff.mp hl
    have : ¬ 0 ≤ mxI L - m := fun h => by have := gapM h; rw [hnil] at this; cases this
    show max (-1) (mxI L - m) = -1
    omega
  | some x =>
    have hx : x ∈ gL c.1 (m * B + B + 1).toNat := List.mem_of_getLast? hl
    have h1 := leM x hx
    have h2 := last_ge (gL_lt _ _) hl (gapM (by omega))
    show max (-1) (mxI L - m) = (x : Int)
    omega
theorem len_paid (vals : List Int) (most : Int) : (F__law_paid vals most).length = (most + 1).toNat := by unfold F__law_paid; rw [List.length_map, List.length_range]
open Classical in
theorem whole_eq (W : Cw c m vs B) : decide ((((sl (F__law_paid c.1 (m * B + B)) (some (-m)) none).filter fun can : Bool => !can).map fun can : Bool => (1 : Int)) = ([] : List Int)) = decide (¬ 1 < Gk.F_unit_of c) := by
  have hm := W.C.m0
  have hb := W.big
  have hb0 := W.b0
  rw [sl_neg hm (by rw [len_paid]; omega), len_paid]
  rw [decide_eq_decide, List.map_eq_nil_iff, List.filter_eq_nil_iff]
  have mem : ∀ a : Nat, (m * B + B + 1).toNat - m.toNat ≤ a → a < (m * B + B + 1).toNat → decide (Pay c.1 (a : Int)) ∈ (F__law_paid c.1 (m * B + B)).drop ((m * B + B + 1).toNat - m.toNat) := fun a h1 h2 => by
    unfold F__law_paid
    refine List.mem_of_getElem? (i := a - ((m * B + B + 1).toNat - m.toNat)) ?_
    rw [List.getElem?_drop, show (m * B + B + 1).toNat - m.toNat + (a - ((m * B + B + 1).toNat - m.toNat)) = a by omega, List.getElem?_map, List.getElem?_range h2]
    rfl
  constructor
  · intro h hg
    have hm2 : 2 ≤ m := by
      have := Int.le_of_dvd hm ((gcdL_dvd c.1 0 (Int.le_refl _)).2 m (by rw [W.C.eq]; simp))
      have : 1 < Gk.gcdL c.1 0 := hg
      omega
    have h1 := h _ (mem ((m * B + B).toNat - 1) (by omega) (by omega))
    have h2 := h _ (mem (m * B + B).toNat (by omega) (by omega))
    simp only [Bool.not_eq_true', decide_eq_false_iff_not, Decidable.not_not] at h1 h2
    refine not_both W hg h1 ?_
    rw [show (((m * B + B).toNat - 1 : Nat) : Int) + 1 = ((m * B + B).toNat : Int) by omega]
    exact h2
  · intro hg b hb'
    obtain ⟨i, hi⟩ := List.getElem?_of_mem hb'
    unfold F__law_paid at hi
    rw [List.getElem?_drop, List.getElem?_map] at hi
    cases hr : (List.range (m * B + B + 1).toNat)[(m * B + B + 1).toNat - m.toNat + i]? with
    | none => rw [hr] at hi; cases hi
    | some a =>
      rw [hr] at hi
      have hi : decide (Pay c.1 (a : Int)) = b := Option.some.inj hi
      obtain ⟨h1, h2⟩ := List.getElem?_eq_some_iff.mp hr
      rw [List.getElem_range] at h2
      rw [← hi, decide_eq_true (pays W hg (by omega))]
      decide
theorem gapN (W : Cw c m vs B) : ∀ n : Nat, n < (gL c.1 (m * B + B + 1).toNat).length → n < G c.1 (m * B + B + 1).toNat := fun n h => by rwa [gL_len] at h
theorem nth_good (W : Cw c m vs B) {n : Int} (h0 : 0 ≤ n) (h1 : n < ((gL c.1 (m * B + B + 1).toNat).length : Int)) : Gy.ok_nth_gap c (.int n) ∧ Gy.F_nth_gap c (.int n) = .ok (gI ((gL c.1 (m * B + B + 1).toNat).map fun x : Nat => (x : Int)) n) := by
  have hb := W.big
  have hbad : badN c (.int n) = false := by
    unfold badN
    show (false || (decide (n < 0) || ((Gy.F_gaps_many c).isSome && decide ((Gy.F_gaps_many c).getD default ≤ n)))) = false
    rw [decide_eq_false (show ¬ n < 0 by omega)]
    by_cases hg : 1 < Gk.F_unit_of c
    · rw [(gaps_none hg).2]; rfl
    · rw [many_eq W hg]
      show (false || (false || (true && decide (((gL c.1 (m * B + B + 1).toNat).length : Int) ≤ n)))) = false
      rw [decide_eq_false (show ¬ ((gL c.1 (m * B + B + 1).toNat).length : Int) ≤ n by omega)]; rfl
  refine ⟨⟨⟨m, vs, W.C⟩, trivial, fun _ => ⟨n, rfl⟩, okGM W, fun _ => ⟨_, by omega, gapN W n.toNat (by omega)⟩⟩, ?_⟩
  unfold Gy.F_nth_gap
  rw [hbad, if_neg Bool.false_ne_true]
  refine congrArg Except.ok ?_
  show gapAt c.1 n.toNat = _
  have hlt : n.toNat < (gL c.1 (m * B + B + 1).toNat).length := by omega
  rw [gL_at (List.getElem?_eq_getElem hlt)]
  unfold gI
  rw [List.getElem?_map, List.getElem?_eq_getElem hlt]; rfl
theorem nth_bad (W : Cw c m vs B) {d : D} (hv : IsV d) (hi : isI d = true → IsIn d) (hb : badN c d = true) : Gy.ok_nth_gap c d ∧ Gy.F_nth_gap c d = .error ⟨"Nothing", []⟩ := by
  refine ⟨⟨⟨m, vs, W.C⟩, hv, hi, okGM W, fun h => by rw [hb] at h; cases h⟩, ?_⟩
  unfold Gy.F_nth_gap
  rw [hb, if_pos rfl]
end
theorem last_cast (l : List Nat) : (if (decide ((l.map fun x : Nat => (x : Int)) ≠ ([] : List Int))) = true then (some (lastI (l.map fun x : Nat => (x : Int)))) else (some (-(1 : Int)))) = some (match l.getLast? with | some x => (x : Int) | none => -1) := by
  cases hl : l.getLast? with
  | none =>
    rw [List.getLast?_eq_none_iff.mp hl]; rfl
  | some x =>
    have hne : l ≠ [] := fun h => by rw [h] at hl; cases hl
    have hne2 : (l.map fun x : Nat => (x : Int)) ≠ [] := fun h => hne (List.map_eq_nil_iff.mp h)
    rw [if_pos (decide_eq_true hne2)]
    unfold lastI
    rw [List.getLast?_map, hl]; rfl
theorem mid_mem {α : Type} {L pre post : List α} {x : α} (h : L = pre ++ x :: post) : x ∈ L := by rw [h]; simp
theorem isDs_opt : ∀ l : List (Option Int), isDs 60 (l.map e) = true
  | [] => rfl
  | o :: l => by
    show (isD 60 (e o) && isDs 60 (l.map e)) = true
    rw [isDs_opt l]
    cases o <;> rfl
def d_law_1 (EP : Exc → Sto → Prop) : DS :=
  (dFor (iAny (dVar 14)) (gSet 13) (dIfS (dB (dOp dNe (dLam 2 Gn.d__law_heard (fun EX => (dFn Gy.sp_nth_gap EX (dCons (dVar 3) (dCons (dVar 13) dNil)))) (xF EP)) (dTup (dCons (dC (.str "nothing")) dNil)))) (dRet (dC (.bl false))) dNext))
def d_law_2 (EP : Exc → Sto → Prop) : DS :=
  (dSeq (dAsg (dOp dAdd (dLst (dCons (dC .non) (dCons (dC (.bl true)) (dCons (dUn dNeg (dC (.int 1))) (dCons (dC (.str "0")) dNil))))) (dIf (dTru (dVar 11)) (dLst (dCons (dCall dLenA (dCons (dVar 8) dNil)) (dCons (dOp dAdd (dCall dLenA (dCons (dVar 8) dNil)) (dC (.int 5))) dNil))) (dLst dNil))) (gSet 14))
  (d_law_1 EP))
def d_law_3 (EP : Exc → Sto → Prop) : DS :=
  (dSeq (dFor (iAny (dSortSet (dLst (dCons (dC (.int 0)) (dCons (dOp dSub (dCall dLenA (dCons (dVar 8) dNil)) (dC (.int 1))) (dCons (dFn Cb.sp__law_take (xF EP) (dCons (dVar 1) (dCons (dOp dAdd (dCall dLenA (dCons (dVar 8) dNil)) (dC (.int 1))) dNil))) dNil)))))) (gSet 13) (dIfS (dAndT (dB (dChain (dCmpI (fun i j => decide (i ≤ j))) (dCmpI (fun i j => decide (i < j))) (dC (.int 0)) (dVar 13) (dCall dLenA (dCons (dVar 8) dNil)))) (dNotT (dTru (dFn Cc.sp__law_alike (xF EP) (dCons (dLam 2 Gn.d__law_heard (fun EX => (dFn Gy.sp_nth_gap EX (dCons (dVar 3) (dCons (dVar 13) dNil)))) (xF EP)) (dCons (dTup (dCons (dC (.str "told")) (dCons (dOp dIx (dVar 8) (dVar 13)) dNil))) dNil)))))) (dRet (dC (.bl false))) dNext))
  (d_law_2 EP))
def d_law_4 (EP : Exc → Sto → Prop) : DS :=
  (dSeq (dIfS (dNotT (dTru (dFn Cc.sp__law_alike (xF EP) (dCons (dLst (dCons (dFn Gy.sp_greatest_gap (xF EP) (dCons (dVar 3) dNil)) (dCons (dFn Gy.sp_gaps_many (xF EP) (dCons (dVar 3) dNil)) dNil))) (dCons (dVar 12) dNil))))) (dRet (dC (.bl false))) dNext)
  (d_law_3 EP))
def d_law_5 (EP : Exc → Sto → Prop) : DS :=
  (dSeq (dIfS (dTru (dVar 11)) (dAsg (dLst (dCons (dIf (dB (dOp dNe (dVar 8) (dLst dNil))) (dOp dIx (dVar 8) (dUn dNeg (dC (.int 1)))) (dUn dNeg (dC (.int 1)))) (dCons (dCall dLenA (dCons (dVar 8) dNil)) dNil))) (gSet 12)) (dAsg (dLst (dCons (dC .non) (dCons (dC .non) dNil))) (gSet 12)))
  (d_law_4 EP))
def d_law_6 (EP : Exc → Sto → Prop) : DS :=
  (dSeq (dAsg (dOp dEq (dLc (iAny (dSl dSlc (dVar 7) (dPart (dUn dNeg (dOp dIx (dVar 5) (dC (.int 0))))) dNoPart)) (gSet 10) (dNotT (dTru (dVar 10))) (dC (.int 1)) [10]) (dLst dNil)) (gSet 11))
  (d_law_5 EP))
def d_law_7 (EP : Exc → Sto → Prop) : DS :=
  (dSeq (dAsg (dLc (iEnm (dCons (dVar 7) dNil)) (gTup 2 (gCons (gSet 9) (gCons (gSet 10) gNil))) (dNotT (dTru (dVar 10))) (dVar 9) [9, 10]) (gSet 8))
  (d_law_6 EP))
def d_law_8 (EP : Exc → Sto → Prop) : DS :=
  (dSeq (dAsg (dFn Gy.sp__law_paid (xF EP) (dCons (dVar 5) (dCons (dOp dAdd (dOp dMul (dOp dIx (dVar 5) (dC (.int 0))) (dOp dIx (dVar 5) (dUn dNeg (dC (.int 1))))) (dOp dIx (dVar 5) (dUn dNeg (dC (.int 1))))) dNil))) (gSet 7))
  (d_law_7 EP))
def d_law_9 (EP : Exc → Sto → Prop) : DS :=
  (dSeq (dAsg (dTup (dCons (dVar 5) (dCons (dOp dIx (dVar 3) (dC (.int 1))) dNil))) (gSet 3))
  (d_law_8 EP))
def d_law_10 (EP : Exc → Sto → Prop) : DS :=
  (dSeq (dAsg (dCall dTuple1 (dCons (dLc (iAny (dOp dIx (dVar 3) (dC (.int 0)))) (gSet 6) dYes (dOp dMul (dVar 6) (dVar 4)) [6]) dNil)) (gSet 5))
  (d_law_9 EP))
def d_law_11 (EP : Exc → Sto → Prop) : DS :=
  (dSeq (dAsg (dFn Cc.sp__law_some (xF EP) (dCons (dVar 1) (dCons (dLst (dCons (dC (.int 1)) (dCons (dC (.int 1)) (dCons (dC (.int 1)) (dCons (dC (.int 2)) dNil))))) dNil))) (gSet 4))
  (d_law_10 EP))
def d_law_12 (EP : Exc → Sto → Prop) : DS :=
  (dSeq (dFor (iRng1 (dCons (dC (.int 4)) dNil)) (gSet 2) (dSeq (dAsg (dFn Gh.sp__law_coinage (xF EP) (dCons (dVar 1) (dCons (dOp dAdd (dC (.int 1)) (dFn Cb.sp__law_take (xF EP) (dCons (dVar 1) (dCons (dC (.int 4)) dNil)))) (dCons (dFn Cc.sp__law_some (xF EP) (dCons (dVar 1) (dCons (dLst (dCons (dC (.int 9)) (dCons (dC (.int 20)) (dCons (dC (.int 30)) dNil)))) dNil))) (dCons (dC (.int 9)) dNil))))) (gSet 3))
  (d_law_11 EP)))
  (dRet (dC (.bl true))))
def d_law (EP : Exc → Sto → Prop) : DS :=
  (dSeq (dAsg (dFn Cb.sp__law_bag (xF EP) (dCons (dVar 0) dNil)) (gSet 1))
  (d_law_12 EP))
def W_law (script : List Int) (K : Bool → Prop) (E : Exc → Prop) : Prop :=
  (-(2 ^ 62) ≤ (4 : Int) ∧ (4 : Int) < 2 ^ 62) ∧ wFor (rngI 0 (4 : Int)) () (fun (turn_2 : Int) (s_1 : Unit) (next_17 : (Unit) → Prop) => ((0 < (4 : Int) ∧ (4 : Int) ≤ 1000000000000) ∧ wDraw (fun v_125 : Int => 0 ≤ v_125 ∧ v_125 < (4 : Int)) (fun v_125 : Int => (((((9 : Int) :: ((20 : Int) :: ((30 : Int) :: []))) : (List Int)) ≠ [] ∧ ((((9 : Int) :: ((20 : Int) :: ((30 : Int) :: []))) : (List Int))).length ≤ 1000000000000) ∧ wDraw (fun v_126 : Int => v_126 ∈ ((((9 : Int) :: ((20 : Int) :: ((30 : Int) :: []))) : (List Int)) : List Int)) (fun v_126 : Int => (Gh.ok__law_coinage (((1 : Int) + v_125)) v_126 (9 : Int) ∧ wDraw (Gh.P__law_coinage (((1 : Int) + v_125)) v_126 (9 : Int)) (fun v_127 : ((List Int) × (List Int)) => wAp (fun coinage_19 : ((List Int) × (List Int)) => (((((1 : Int) :: ((1 : Int) :: ((1 : Int) :: ((2 : Int) :: [])))) : (List Int)) ≠ [] ∧ ((((1 : Int) :: ((1 : Int) :: ((1 : Int) :: ((2 : Int) :: [])))) : (List Int))).length ≤ 1000000000000) ∧ wDraw (fun v_121 : Int => v_121 ∈ ((((1 : Int) :: ((1 : Int) :: ((1 : Int) :: ((2 : Int) :: [])))) : (List Int)) : List Int)) (fun v_121 : Int => wAp (fun times_20 : Int => (coinage_19.1).length ≤ sizeLine ∧ (∀ value_26 ∈ coinage_19.1, CMulA value_26 times_20) ∧ wAp (fun values_27 : (List Int) => wAp (fun coinage_30 : ((List Int) × (List Int)) => (0 ≤ (0 : Int) ∧ (0 : Int) < (values_27).length) ∧ values_27 ≠ [] ∧ CMulA (gI values_27 (0 : Int)) (lastI values_27) ∧ values_27 ≠ [] ∧ Gy.ok__law_paid values_27 (((gI values_27 (0 : Int)) * (lastI values_27)) + (lastI values_27)) ∧ wAp (fun paid_31 : (List Bool) => ((enumI paid_31)).length ≤ sizeLine ∧ wAp (fun gaps_44 : (List Int) => (0 ≤ (0 : Int) ∧ (0 : Int) < (values_27).length) ∧ ((sl paid_31 (some (-(gI values_27 (0 : Int)))) none)).length ≤ sizeLine ∧ wAp (fun is_whole_53 : Bool => wIf is_whole_53 (((decide (gaps_44 ≠ ([] : (List Int)))) = true → gaps_44 ≠ []) ∧ wAp (fun due_57 : (List (Option Int)) => Gy.ok_greatest_gap coinage_30 ∧ Gy.ok_gaps_many coinage_30 ∧ (((((Gy.F_greatest_gap coinage_30) :: ((Gy.F_gaps_many coinage_30) :: [])) : (List (Option Int))) = due_57 ∧ isDs 60 ((due_57).map (e : (Option Int) → D)) = true ∧ dszs ((due_57).map (e : (Option Int) → D)) ≤ 999999) ∧ wIf (!true) (wAp K false) (((0 < (((gaps_44).length : Int) + (1 : Int)) ∧ (((gaps_44).length : Int) + (1 : Int)) ≤ 1000000000000) ∧ wDraw (fun v_88 : Int => 0 ≤ v_88 ∧ v_88 < (((gaps_44).length : Int) + (1 : Int))) (fun v_88 : Int => (([(0 : Int), (((gaps_44).length : Int) - (1 : Int)), v_88] : (List Int)).length ≤ sizeLine ∧ ((([(0 : Int), (((gaps_44).length : Int) - (1 : Int)), v_88] : (List Int))).length < 64 ∧ wFor (sortU ([(0 : Int), (((gaps_44).length : Int) - (1 : Int)), v_88] : (List Int))) () (fun (number_62 : Int) (s_61 : Unit) (next_67 : (Unit) → Prop) => wJoin (fun b_74 : Bool => wIf b_74 (wAp K false) (next_67 ())) (fun kd_73 : Bool → Prop => wIf (decide ((0 : Int) ≤ number_62) && decide (number_62 < ((gaps_44).length : Int))) (((((0 ≤ number_62 ∧ number_62 < (gaps_44).length))) ∧ (((Gy.ok_nth_gap coinage_30 (e (number_62 : Int))) ∧ Gn.ok__law_heard (xD (Gy.F_nth_gap coinage_30 (e (number_62 : Int))))) ∧ (((Gn.F__law_heard (xD (Gy.F_nth_gap coinage_30 (e (number_62 : Int))))) = (e (((("told" : Str), (gI gaps_44 number_62)) : (Str × Int)) : (Str × Int))) ∧ isD 60 (e ((e (((("told" : Str), (gI gaps_44 number_62)) : (Str × Int)) : (Str × Int))) : D)) = true ∧ dsz (e ((e (((("told" : Str), (gI gaps_44 number_62)) : (Str × Int)) : (Str × Int))) : D)) ≤ 1000000) ∧ kd_73 (!true))))) (kd_73 false))) (fun s_61 : Unit => ((((e (() : Unit)) :: ((e (true : Bool)) :: ((e ((-(1 : Int)) : Int)) :: ((e (("0" : Str) : Str)) :: [])))) : (List D))).length + ((if is_whole_53 = true then (((e (((gaps_44).length : Int) : Int)) :: ((e ((((gaps_44).length : Int) + (5 : Int)) : Int)) :: [])) : (List D)) else ([] : (List D)))).length ≤ sizeLine ∧ wAp (fun bad_77 : (List D) => wFor bad_77 () (fun (number_80 : D) (s_79 : Unit) (next_85 : (Unit) → Prop) => (((Gy.ok_nth_gap coinage_30 number_80) ∧ Gn.ok__law_heard (xD (Gy.F_nth_gap coinage_30 number_80))) ∧ ((isD 63 (Gn.F__law_heard (xD (Gy.F_nth_gap coinage_30 number_80))) = true ∧ isD 63 (e (([("nothing" : Str)] : (List Str)) : (List Str))) = true) ∧ wIf (!eqD (Gn.F__law_heard (xD (Gy.F_nth_gap coinage_30 number_80))) (e (([("nothing" : Str)] : (List Str)) : (List Str)))) (wAp K false) (next_85 ())))) (fun s_79 : Unit => next_17 ())) ((((e (() : Unit)) :: ((e (true : Bool)) :: ((e ((-(1 : Int)) : Int)) :: ((e (("0" : Str) : Str)) :: [])))) : (List D)) ++ (if is_whole_53 = true then (((e (((gaps_44).length : Int) : Int)) :: ((e ((((gaps_44).length : Int) + (5 : Int)) : Int)) :: [])) : (List D)) else ([] : (List D)))))))))))) (((if (decide (gaps_44 ≠ ([] : (List Int)))) = true then (some (lastI gaps_44)) else (some (-(1 : Int)))) :: ((some ((gaps_44).length : Int)) :: [])) : (List (Option Int)))) (wAp (fun due_89 : (List (Option Int)) => Gy.ok_greatest_gap coinage_30 ∧ Gy.ok_gaps_many coinage_30 ∧ (((((Gy.F_greatest_gap coinage_30) :: ((Gy.F_gaps_many coinage_30) :: [])) : (List (Option Int))) = due_89 ∧ isDs 60 ((due_89).map (e : (Option Int) → D)) = true ∧ dszs ((due_89).map (e : (Option Int) → D)) ≤ 999999) ∧ wIf (!true) (wAp K false) (((0 < (((gaps_44).length : Int) + (1 : Int)) ∧ (((gaps_44).length : Int) + (1 : Int)) ≤ 1000000000000) ∧ wDraw (fun v_119 : Int => 0 ≤ v_119 ∧ v_119 < (((gaps_44).length : Int) + (1 : Int))) (fun v_119 : Int => (([(0 : Int), (((gaps_44).length : Int) - (1 : Int)), v_119] : (List Int)).length ≤ sizeLine ∧ ((([(0 : Int), (((gaps_44).length : Int) - (1 : Int)), v_119] : (List Int))).length < 64 ∧ wFor (sortU ([(0 : Int), (((gaps_44).length : Int) - (1 : Int)), v_119] : (List Int))) () (fun (number_93 : Int) (s_92 : Unit) (next_98 : (Unit) → Prop) => wJoin (fun b_105 : Bool => wIf b_105 (wAp K false) (next_98 ())) (fun kd_104 : Bool → Prop => wIf (decide ((0 : Int) ≤ number_93) && decide (number_93 < ((gaps_44).length : Int))) (((((0 ≤ number_93 ∧ number_93 < (gaps_44).length))) ∧ (((Gy.ok_nth_gap coinage_30 (e (number_93 : Int))) ∧ Gn.ok__law_heard (xD (Gy.F_nth_gap coinage_30 (e (number_93 : Int))))) ∧ (((Gn.F__law_heard (xD (Gy.F_nth_gap coinage_30 (e (number_93 : Int))))) = (e (((("told" : Str), (gI gaps_44 number_93)) : (Str × Int)) : (Str × Int))) ∧ isD 60 (e ((e (((("told" : Str), (gI gaps_44 number_93)) : (Str × Int)) : (Str × Int))) : D)) = true ∧ dsz (e ((e (((("told" : Str), (gI gaps_44 number_93)) : (Str × Int)) : (Str × Int))) : D)) ≤ 1000000) ∧ kd_104 (!true))))) (kd_104 false))) (fun s_92 : Unit => ((((e (() : Unit)) :: ((e (true : Bool)) :: ((e ((-(1 : Int)) : Int)) :: ((e (("0" : Str) : Str)) :: [])))) : (List D))).length + ((if is_whole_53 = true then (((e (((gaps_44).length : Int) : Int)) :: ((e ((((gaps_44).length : Int) + (5 : Int)) : Int)) :: [])) : (List D)) else ([] : (List D)))).length ≤ sizeLine ∧ wAp (fun bad_108 : (List D) => wFor bad_108 () (fun (number_111 : D) (s_110 : Unit) (next_116 : (Unit) → Prop) => (((Gy.ok_nth_gap coinage_30 number_111) ∧ Gn.ok__law_heard (xD (Gy.F_nth_gap coinage_30 number_111))) ∧ ((isD 63 (Gn.F__law_heard (xD (Gy.F_nth_gap coinage_30 number_111))) = true ∧ isD 63 (e (([("nothing" : Str)] : (List Str)) : (List Str))) = true) ∧ wIf (!eqD (Gn.F__law_heard (xD (Gy.F_nth_gap coinage_30 number_111))) (e (([("nothing" : Str)] : (List Str)) : (List Str)))) (wAp K false) (next_116 ())))) (fun s_110 : Unit => next_17 ())) ((((e (() : Unit)) :: ((e (true : Bool)) :: ((e ((-(1 : Int)) : Int)) :: ((e (("0" : Str) : Str)) :: [])))) : (List D)) ++ (if is_whole_53 = true then (((e (((gaps_44).length : Int) : Int)) :: ((e ((((gaps_44).length : Int) + (5 : Int)) : Int)) :: [])) : (List D)) else ([] : (List D)))))))))))) (((none : (Option Int)) :: ((none : (Option Int)) :: [])) : (List (Option Int))))) (decide (((((sl paid_31 (some (-(gI values_27 (0 : Int)))) none)).filter (fun can_51 : Bool => (!can_51))).map (fun can_51 : Bool => (1 : Int))) = ([] : (List Int))))) ((((enumI paid_31)).filter (fun q_42 : (Int × Bool) => (!q_42.2))).map (fun q_42 : (Int × Bool) => q_42.1))) (Gy.F__law_paid values_27 (((gI values_27 (0 : Int)) * (lastI values_27)) + (lastI values_27)))) ((values_27, coinage_19.2) : ((List Int) × (List Int)))) ((coinage_19.1).map (fun value_26 : Int => (value_26 * times_20)))) v_121))) v_127))))))) (fun s_1 : Unit => wAp K true)
def sp_law : FSp := fun ds S Q _ => ∃ ns : List Int, ds = [.lw (ns.map D.int)] ∧ ∀ S', Q (.bl true) S'
theorem len_law : ∀ ds S P EP, sp_law ds S P EP → ds.length = 1 := by
  rintro _ S P EP ⟨ns, rfl, _⟩
  rfl
theorem law_ok (script : List Int) : W_law script (fun v => v = true) (fun _ => False) := by
  unfold W_law
  refine ⟨⟨by decide, by decide⟩, wFor_of (fun _ _ => True) trivial (fun pre turn post s next hx _ go => ?_) fun s _ => rfl⟩
  have go : ∀ s, next s := fun s => go s trivial
  refine ⟨⟨by decide, by decide⟩, fun k hk => ⟨⟨by simp, by decide⟩, fun g hgm => ?_⟩⟩
  have hg3 : g = 9 ∨ g = 20 ∨ g = 30 := by simpa using hgm
  refine ⟨⟨by omega, by omega, by omega, by decide, by decide⟩, fun c0 P => ?_⟩
  simp only [wAp]
  refine ⟨⟨by simp, by decide⟩, fun t ht => ?_⟩
  have ht2 : t = 1 ∨ t = 2 := by
    have : t = 1 ∨ t = 1 ∨ t = 1 ∨ t = 2 := by simpa using ht
    omega
  have hv : ∀ v ∈ c0.1, 1 ≤ v ∧ v ≤ 100 := fun v hv => by
    rcases P.vals with h | h
    · have := h v hv; omega
    · obtain ⟨u, hu, he⟩ := List.mem_map.mp h
      rw [← he] at hv
      exact (Gh.usual_up u hu).2.2 v (List.mem_of_mem_take hv)
  have hl := P.lv
  refine ⟨line (by omega), fun v hv' => cmL (by have := hv v hv'; omega) (by have := hv v hv'; omega), ?_⟩
  have hup : (c0.1.map fun v : Int => v * t).Pairwise (· < ·) := List.pairwise_map.mpr (P.up.imp fun {a b} h => by rcases ht2 with rfl | rfl <;> omega)
  have hvs : ∀ v ∈ c0.1.map fun v : Int => v * t, 1 ≤ v ∧ v ≤ 200 := fun v hv' => by
    obtain ⟨u, hu, rfl⟩ := List.mem_map.mp hv'
    have := hv u hu
    rcases ht2 with rfl | rfl <;> omega
  have hlen : (c0.1.map fun v : Int => v * t).length = c0.1.length := List.length_map ..
  generalize (c0.1.map fun v : Int => v * t) = vals at *
  obtain ⟨m, vs, rfl⟩ : ∃ m vs, vals = m :: vs := by
    cases vals with
    | nil => simp at hlen; omega
    | cons m vs => exact ⟨m, vs, rfl⟩
  generalize hB : lastI (m :: vs) = B
  have hBin : B ∈ m :: vs := by rw [← hB]; unfold lastI; rw [List.getLast?_eq_some_getLast (by simp)]; exact List.getLast_mem (by simp)
  have hBmax : ∀ v ∈ m :: vs, v ≤ B := fun v hv' => by
    obtain ⟨ys, hys⟩ := List.getLast?_eq_some_iff.mp (show (m :: vs).getLast? = some B by rw [← hB]; unfold lastI; rw [List.getLast?_eq_some_getLast (by simp)]; rfl)
    rw [hys] at hv' hup
    rcases List.mem_append.mp hv' with h | h
    · exact Int.le_of_lt ((List.pairwise_append.mp hup).2.2 v h B (by simp))
    · rw [List.mem_singleton] at h; omega
  have hm1 := hvs m (by simp)
  have hB1 := hvs B hBin
  have W : Cw (m :: vs, c0.2) m vs B := ⟨⟨rfl, by omega, by omega, fun v h => by have := hvs v (List.mem_cons_of_mem _ h); omega, by simp at hlen; omega⟩, hBmax, by omega, by omega, hBmax m (by simp)⟩
  have hb := W.big
  have e0 : gI (m :: vs) (0 : Int) = m := rfl
  have e1 := paid_gaps (m :: vs) (m * B + B)
  have e2 := whole_eq W
  dsimp only at e2
  simp only [e0, e1, e2, List.length_map]
  generalize hgl : gL (m :: vs) (m * B + B + 1).toNat = gl at *
  have hgs : gl.length ≤ 100001 := by
    rw [← hgl, gL_len]
    have h9 : G (m :: vs) (m * B + B + 1).toNat ≤ (List.range (m * B + B + 1).toNat).length := List.countP_le_length
    rw [List.length_range] at h9
    omega
  have hbl : (m * B + B + 1).toNat ≤ 100001 := by omega
  have hc0 : 0 ≤ (0 : Int) ∧ (0 : Int) < ((m :: vs).length : Int) := W.C.len
  have hpl := len_paid (m :: vs) (m * B + B)
  have okp : Gy.ok__law_paid (m :: vs) (m * B + B) := ⟨by simp at hlen ⊢; omega, W.pos, by omega, by omega⟩
  refine ⟨hc0, by simp, cmL (by omega) (by omega), by simp, okp, ?_, hc0, ?_, ?_⟩
  · refine line ?_
    unfold enumI
    rw [List.length_map, List.length_zipIdx, hpl]; omega
  · refine line ?_
    unfold sl
    rw [List.length_take, List.length_drop, hpl]; omega
  have hcast : ∀ x : Int, dsz (e (("told" : Str), x)) ≤ 1000000 := fun x => by rw [Pl.dsz_told]; show 1 + 2 ≤ 1000000; decide
  refine wIf_i (fun c => ?_) fun c => ?_
  · have hg : ¬ 1 < Gk.F_unit_of (m :: vs, c0.2) := of_decide_eq_true c
    refine ⟨fun h => of_decide_eq_true h, okGG W, okGM W, ⟨?_, isDs_opt _, by rw [Pl.dszs_opts]; show 2 ≤ 999999; decide⟩, wIf_i (fun h => by cases h) fun _ => ?_⟩
    · have h1 := great_eq W hg
      have h2 := many_eq W hg
      dsimp only at h1 h2
      rw [h1, h2, hgl, last_cast]
    refine ⟨⟨by omega, by omega⟩, fun v hv => ⟨line (by show 3 ≤ 16777216; decide), by show 3 < 64; decide, ?_⟩⟩
    refine wFor_of (fun _ _ => True) trivial (fun pre2 n post2 s2 next2 hx2 _ go2 => ?_) fun s2 _ => ?_
    · refine Pl.wJoin_i false (wIf_i (fun h => by cases h) fun _ => go2 _ trivial) fun kd hkd => wIf_i (fun c2 => ?_) fun _ => hkd
      rw [Bool.and_eq_true, decide_eq_true_eq, decide_eq_true_eq] at c2
      obtain ⟨o1, o2⟩ := nth_good W c2.1 (by rw [hgl]; exact c2.2)
      dsimp only at o2
      rw [hgl] at o2
      have o2' : Gy.F_nth_gap (m :: vs, c0.2) (e n) = .ok (gI (gl.map fun x : Nat => (x : Int)) n) := o2
      rw [o2']
      exact ⟨c2, ⟨o1, trivial⟩, ⟨rfl, Pl.isD_told (gI (gl.map fun x : Nat => (x : Int)) n), hcast _⟩, hkd⟩
    · refine ⟨line (by split <;> simp), ?_⟩
      refine wFor_of (fun _ _ => True) trivial (fun pre3 d post3 s3 next3 hx3 _ go3 => ?_) fun s3 _ => go _
      have hbad : badN (m :: vs, c0.2) d = true ∧ IsV d ∧ (isI d = true → IsIn d) := by
        have hmem := mid_mem hx3
        rcases List.mem_append.mp hmem with h | h
        · simp only [List.mem_cons, List.not_mem_nil, or_false] at h
          rcases h with rfl | rfl | rfl | rfl
          · exact ⟨rfl, trivial, fun h => Bool.noConfusion (show false = true from h)⟩
          · exact ⟨rfl, trivial, fun h => Bool.noConfusion (show false = true from h)⟩
          · exact ⟨rfl, trivial, fun _ => ⟨-1, rfl⟩⟩
          · exact ⟨rfl, trivial, fun h => Bool.noConfusion (show false = true from h)⟩
        · by_cases hw : (decide (¬ 1 < Gk.F_unit_of (m :: vs, c0.2))) = true
          · rw [if_pos hw] at h
            have hg' : ¬ 1 < Gk.F_unit_of (m :: vs, c0.2) := of_decide_eq_true hw
            have h2 := many_eq W hg'
            dsimp only at h2
            rw [hgl] at h2
            have hb' : ∀ i : Int, (gl.length : Int) ≤ i → badN (m :: vs, c0.2) (.int i) = true := fun i hi => by
              unfold badN
              rw [h2]
              show (false || (decide (i < 0) || (true && decide ((gl.length : Int) ≤ i)))) = true
              rw [decide_eq_true hi]; simp
            simp only [List.mem_cons, List.not_mem_nil, or_false] at h
            rcases h with rfl | rfl
            · exact ⟨hb' _ (Int.le_refl _), trivial, fun _ => ⟨_, rfl⟩⟩
            · exact ⟨hb' _ (by omega), trivial, fun _ => ⟨_, rfl⟩⟩
          · rw [if_neg hw] at h
            cases h
      obtain ⟨o1, o2⟩ := nth_bad W hbad.2.1 hbad.2.2 hbad.1
      rw [o2]
      have hh : Gn.F__law_heard (xD (.error ⟨"Nothing", []⟩ : Except Exc Int)) = .tup [.str ("nothing" : Str)] := Gn.heard_N []
      rw [hh]
      exact ⟨⟨o1, .inr (.inr rfl)⟩, ⟨by decide +kernel, by decide +kernel⟩, wIf_i (fun h => absurd h (by decide +kernel)) fun _ => go3 _ trivial⟩
  · have hg : 1 < Gk.F_unit_of (m :: vs, c0.2) := by
      have := of_decide_eq_false c
      exact Decidable.not_not.mp this
    refine ⟨okGG W, okGM W, ⟨by rw [(gaps_none hg).1, (gaps_none hg).2], by decide, by decide⟩, wIf_i (fun h => by cases h) fun _ => ?_⟩
    refine ⟨⟨by omega, by omega⟩, fun v hv => ⟨line (by show 3 ≤ 16777216; decide), by show 3 < 64; decide, ?_⟩⟩
    refine wFor_of (fun _ _ => True) trivial (fun pre2 n post2 s2 next2 hx2 _ go2 => ?_) fun s2 _ => ?_
    · refine Pl.wJoin_i false (wIf_i (fun h => by cases h) fun _ => go2 _ trivial) fun kd hkd => wIf_i (fun c2 => ?_) fun _ => hkd
      rw [Bool.and_eq_true, decide_eq_true_eq, decide_eq_true_eq] at c2
      obtain ⟨o1, o2⟩ := nth_good W c2.1 (by rw [hgl]; exact c2.2)
      dsimp only at o2
      rw [hgl] at o2
      have o2' : Gy.F_nth_gap (m :: vs, c0.2) (e n) = .ok (gI (gl.map fun x : Nat => (x : Int)) n) := o2
      rw [o2']
      exact ⟨c2, ⟨o1, trivial⟩, ⟨rfl, Pl.isD_told (gI (gl.map fun x : Nat => (x : Int)) n), hcast _⟩, hkd⟩
    · refine ⟨line (by split <;> simp), ?_⟩
      refine wFor_of (fun _ _ => True) trivial (fun pre3 d post3 s3 next3 hx3 _ go3 => ?_) fun s3 _ => go _
      have hbad : badN (m :: vs, c0.2) d = true ∧ IsV d ∧ (isI d = true → IsIn d) := by
        have hmem := mid_mem hx3
        rcases List.mem_append.mp hmem with h | h
        · simp only [List.mem_cons, List.not_mem_nil, or_false] at h
          rcases h with rfl | rfl | rfl | rfl
          · exact ⟨rfl, trivial, fun h => Bool.noConfusion (show false = true from h)⟩
          · exact ⟨rfl, trivial, fun h => Bool.noConfusion (show false = true from h)⟩
          · exact ⟨rfl, trivial, fun _ => ⟨-1, rfl⟩⟩
          · exact ⟨rfl, trivial, fun h => Bool.noConfusion (show false = true from h)⟩
        · by_cases hw : (decide (¬ 1 < Gk.F_unit_of (m :: vs, c0.2))) = true
          · rw [if_pos hw] at h
            have hg' : ¬ 1 < Gk.F_unit_of (m :: vs, c0.2) := of_decide_eq_true hw
            have h2 := many_eq W hg'
            dsimp only at h2
            rw [hgl] at h2
            have hb' : ∀ i : Int, (gl.length : Int) ≤ i → badN (m :: vs, c0.2) (.int i) = true := fun i hi => by
              unfold badN
              rw [h2]
              show (false || (decide (i < 0) || (true && decide ((gl.length : Int) ≤ i)))) = true
              rw [decide_eq_true hi]; simp
            simp only [List.mem_cons, List.not_mem_nil, or_false] at h
            rcases h with rfl | rfl
            · exact ⟨hb' _ (Int.le_refl _), trivial, fun _ => ⟨_, rfl⟩⟩
            · exact ⟨hb' _ (by omega), trivial, fun _ => ⟨_, rfl⟩⟩
          · rw [if_neg hw] at h
            cases h
      obtain ⟨o1, o2⟩ := nth_bad W hbad.2.1 hbad.2.2 hbad.1
      rw [o2]
      have hh : Gn.F__law_heard (xD (.error ⟨"Nothing", []⟩ : Except Exc Int)) = .tup [.str ("nothing" : Str)] := Gn.heard_N []
      rw [hh]
      exact ⟨⟨o1, .inr (.inr rfl)⟩, ⟨by decide +kernel, by decide +kernel⟩, wIf_i (fun h => absurd h (by decide +kernel)) fun _ => go3 _ trivial⟩
theorem pure_law0 (lw_ : ∀ script, W_law script (fun v => v = true) (fun _ => False)) : ∀ ds S Q EP, sp_law ds S Q EP → d_law EP { nx := fun _ S' => Q .non S', rt := Q } (startD 15 ds) S := by
  rintro _ S0 Q EP ⟨script, rfl, hQ_⟩
  have h := lw_ script
  show (_ : DS) _ [some (.lw (script.map D.int)), none, none, none, none, none, none, none, none, none, none, none, none, none, none] _
  unfold d_law
  unfold W_law at h
  refine seq_i (st_bag (i := 1) (j := 0) rfl fun b_ c_ S_bag hb_ => ?_)
  have hc := Cx.bag hb_
  have k0 := St.refl [b_] S_bag
  have hBR := BR.top hc
  show d_law_12 EP _ [some (.lw (script.map D.int)), some (.ref b_), none, none, none, none, none, none, none, none, none, none, none, none, none] _
  unfold d_law_12
  obtain ⟨o_13, h⟩ := h
  refine seq_i (st_for (B := [b_]) (fun (S2_ : Sto) (s_1 : Unit) (ρ_ : Nv) (S_ : Sto) => ∃ (o_coinage_3 : Option D) (o_times_4 : Option D) (o_values_5 : Option D) (o_paid_6 : Option D) (o_gaps_7 : Option D) (o_is_whole_8 : Option D) (o_due_9 : Option D) (o_number_10 : Option D) (o_bad_11 : Option D) (o_turn_12 : Option D) , ρ_ = [some (.lw (script.map D.int)), some (.ref b_), o_turn_12, o_coinage_3, o_times_4, o_values_5, none, o_paid_6, o_gaps_7, none, none, o_is_whole_8, o_due_9, o_number_10, o_bad_11] ∧ (St [b_] S_bag) S_ ∧ Cx [b_] ([]) S_ ∧ (exR (ct [b_] ([]) S2_)).r (ct [b_] ([]) S_) () .non) (it_rng1 (O := []) (ei_c (4 : Int) rfl) o_13) h (fun S1 k1 => ⟨none, none, none, none, none, none, none, none, none, none, rfl, hBR.st k0 k1, hc.st k1, Ext.refl _⟩) (fun S2_ s_ ρ_ S_ a_ => by obtain ⟨_, _, _, _, _, _, _, _, _, _, _, _, _, hOwn_⟩ := a_; exact hOwn_) (fun S2_15 k2_ turn_2 hx_ d_ s_1 next_ ρ_ S1 Kx_ a_ rx_ h kx_ => ?_) (fun S2_ s_1 ρ_ S1 k2_ h a_ => ?_))
  · obtain ⟨o_coinage_3, o_times_4, o_values_5, o_paid_6, o_gaps_7, o_is_whole_8, o_due_9, o_number_10, o_bad_11, o_turn_12, rfl, k0, hc, hE_14⟩ := a_
    cases rx_
    refine eg_set _ _ ?_
    show (_ : DS) _ [some (.lw (script.map D.int)), some (.ref b_), some (e (turn_2 : Int)), o_coinage_3, o_times_4, o_values_5, none, o_paid_6, o_gaps_7, none, none, o_is_whole_8, o_due_9, o_number_10, o_bad_11] _
    skip
    refine seq_i (sw_asg (B := [b_]) (ew_callB (i := 1) (fun x : (Int × Int × Int × Unit) => Gh.ok__law_coinage x.1 x.2.1 x.2.2.1) (fun x : (Int × Int × Int × Unit) => Gh.P__law_coinage x.1 x.2.1 x.2.2.1) hc rfl (ewa_cons (ew_add (EW.pure (ED.o (O' := []) (ei_c (1 : Int) rfl))) (ew_take (i := 1) hc rfl (EW.pure (ED.o (O' := []) (ei_c (4 : Int) rfl))))) (ewa_cons (ew_some (i := 1) hc rfl (ews_p (es_lst (EN.ed (en_lst hc (er_cons (ED.o (ei_c (9 : Int) rfl)) (er_cons (ED.o (ei_c (20 : Int) rfl)) (er_cons (ED.o (ei_c (30 : Int) rfl)) er_nil))) (szl (by decide : 3 ≤ 1000))))))) (ewa_cons (EW.pure (ED.o (O' := []) (ei_c (9 : Int) rfl))) ewa_nil))) (fun xs o_ K E h_ => Gh.w__law_coinage o_ h_)) h fun coinage_19 d_ S1 k1 r_ h => ?_)
    cases r_
    have hE_14 := Rep.mono _ (ct_st k1) hE_14
    have k0 := hBR.st k0 k1
    have hc := hc.st k1
    show d_law_11 EP _ [some (.lw (script.map D.int)), some (.ref b_), some (e (turn_2 : Int)), some (e (coinage_19 : ((List Int) × (List Int)))), o_times_4, o_values_5, none, o_paid_6, o_gaps_7, none, none, o_is_whole_8, o_due_9, o_number_10, o_bad_11] _
    unfold d_law_11
    skip
    refine seq_i (sw_asg (B := [b_]) (ew_some (i := 1) hc rfl (ews_p (es_lst (EN.ed (en_lst hc (er_cons (ED.o (ei_c (1 : Int) rfl)) (er_cons (ED.o (ei_c (1 : Int) rfl)) (er_cons (ED.o (ei_c (1 : Int) rfl)) (er_cons (ED.o (ei_c (2 : Int) rfl)) er_nil)))) (szl (by decide : 4 ≤ 1000))))))) h fun times_20 d_ S1 k1 r_ h => ?_)
    cases r_
    have hE_14 := Rep.mono _ (ct_st k1) hE_14
    have k0 := hBR.st k0 k1
    have hc := hc.st k1
    show d_law_10 EP _ [some (.lw (script.map D.int)), some (.ref b_), some (e (turn_2 : Int)), some (e (coinage_19 : ((List Int) × (List Int)))), some (e (times_20 : Int)), o_values_5, none, o_paid_6, o_gaps_7, none, none, o_is_whole_8, o_due_9, o_number_10, o_bad_11] _
    unfold d_law_10
    obtain ⟨o_28, o_29, h⟩ := h
    refine seq_i (st_asg (B := [b_]) (ei_tuple (es_lst (EN.ed (en_lc0 (R := (v Int)) (fun value_26 : Int => (value_26 * times_20)) hc (it_any (es_tup (O := []) (ei_fst (ei_var (i := 3) coinage_19 rfl)))) o_28 (fun value_26 hx_22 d_23 S_25 k_21 r_24 => by cases r_24; exact ⟨[some (.lw (script.map D.int)), some (.ref b_), some (e (turn_2 : Int)), some (e (coinage_19 : ((List Int) × (List Int)))), some (e (times_20 : Int)), o_values_5, some (e (value_26 : Int)), o_paid_6, o_gaps_7, none, none, o_is_whole_8, o_due_9, o_number_10, o_bad_11], eg_set, (ED.o (ei_mul (ei_var (i := 6) value_26 rfl) (ei_var (i := 4) times_20 rfl) (o_29 value_26 hx_22)))⟩))))) h fun values_27 S1 k1 h => ?_)
    have hE_14 := Rep.mono _ (ct_st k1) hE_14
    have k0 := hBR.st k0 k1
    have hc := hc.st k1
    show d_law_9 EP _ [some (.lw (script.map D.int)), some (.ref b_), some (e (turn_2 : Int)), some (e (coinage_19 : ((List Int) × (List Int)))), some (e (times_20 : Int)), some (e (values_27 : (List Int))), none, o_paid_6, o_gaps_7, none, none, o_is_whole_8, o_due_9, o_number_10, o_bad_11] _
    unfold d_law_9
    refine seq_i (st_asg (B := [b_]) (ei_tup (x := ((values_27, coinage_19.2) : ((List Int) × (List Int)))) (el_cons (ei_var (i := 5) values_27 rfl) (el_cons (ei_snd (ei_var (i := 3) coinage_19 rfl)) el_nil)) rfl (szl (by decide : 2 ≤ 1000))) h fun coinage_30 S1 k1 h => ?_)
    have hE_14 := Rep.mono _ (ct_st k1) hE_14
    have k0 := hBR.st k0 k1
    have hc := hc.st k1
    show d_law_8 EP _ [some (.lw (script.map D.int)), some (.ref b_), some (e (turn_2 : Int)), some (e (coinage_30 : ((List Int) × (List Int)))), some (e (times_20 : Int)), some (e (values_27 : (List Int))), none, o_paid_6, o_gaps_7, none, none, o_is_whole_8, o_due_9, o_number_10, o_bad_11] _
    unfold d_law_8
    obtain ⟨o_32, o_33, o_34, o_35, o_36, h⟩ := h
    refine seq_i (st_asgC (B := [b_]) (EN.ed (en_call hc (ea_cons (ED.o (ei_var (i := 5) values_27 rfl)) (ea_cons (ED.o (ei_add (ei_mul (ei_at (ei_var (i := 5) values_27 rfl) (ei_c (0 : Int) rfl) o_32) (ei_last (ei_var (i := 5) values_27 rfl) o_33) o_34) (ei_last (ei_var (i := 5) values_27 rfl) o_35))) ea_nil)) (fun K E h => (Gy.w__law_paid o_36) h))) h fun paid_31 d_paid_31 S1 k1 r_paid_31 h => ?_)
    have hE_14 := Rep.mono _ (ct_st k1) hE_14
    have k0 := hBR.st k0 k1
    have hc := hc.st k1
    show d_law_7 EP _ [some (.lw (script.map D.int)), some (.ref b_), some (e (turn_2 : Int)), some (e (coinage_30 : ((List Int) × (List Int)))), some (e (times_20 : Int)), some (e (values_27 : (List Int))), none, some d_paid_31, o_gaps_7, none, none, o_is_whole_8, o_due_9, o_number_10, o_bad_11] _
    unfold d_law_7
    obtain ⟨o_45, h⟩ := h
    refine seq_i (st_asgC (B := [b_]) (EN.ed (en_lc (R := (v Int)) (fun q_42 : (Int × Bool) => (!q_42.2)) (fun q_42 : (Int × Bool) => q_42.1) hc (EIt.pv (it_enum (es_lst (ed_var (i := 7) paid_31 rfl r_paid_31)))) o_45 (fun q_42 hx_38 d_39 S_41 k_37 r_40 => by cases r_40; exact ⟨[some (.lw (script.map D.int)), some (.ref b_), some (e (turn_2 : Int)), some (e (coinage_30 : ((List Int) × (List Int)))), some (e (times_20 : Int)), some (e (values_27 : (List Int))), none, some d_paid_31, o_gaps_7, some (e (q_42.1 : Int)), some (e (q_42.2 : Bool)), o_is_whole_8, o_due_9, o_number_10, o_bad_11], (eg_t2 eg_set eg_set), (eb_not (eb_tru (ei_var (i := 10) q_42.2 rfl))), fun hx_43 => (ED.o (ei_var (i := 9) q_42.1 rfl))⟩))) h fun gaps_44 d_gaps_44 S1 k1 r_gaps_44 h => ?_)
    have hE_14 := Rep.mono _ (ct_st k1) hE_14
    have r_paid_31 := Rep.mono _ (ct_st k1) r_paid_31
    have k0 := hBR.st k0 k1
    have hc := hc.st k1
    show d_law_6 EP _ [some (.lw (script.map D.int)), some (.ref b_), some (e (turn_2 : Int)), some (e (coinage_30 : ((List Int) × (List Int)))), some (e (times_20 : Int)), some (e (values_27 : (List Int))), none, some d_paid_31, some d_gaps_44, none, none, o_is_whole_8, o_due_9, o_number_10, o_bad_11] _
    unfold d_law_6
    obtain ⟨o_54, o_55, h⟩ := h
    refine seq_i (st_asg (B := [b_]) (el_eq (EN.ed (en_lc (R := (v Int)) (fun can_51 : Bool => (!can_51)) (fun can_51 : Bool => (1 : Int)) hc (it_any (es_lst (EN.ed (en_sl hc (ed_var (i := 7) paid_31 rfl r_paid_31) (ep_some (ei_neg (ei_at (ei_var (i := 5) values_27 rfl) (ei_c (0 : Int) rfl) o_54))) ep_no)))) o_55 (fun can_51 hx_47 d_48 S_50 k_46 r_49 => by cases r_49; exact ⟨[some (.lw (script.map D.int)), some (.ref b_), some (e (turn_2 : Int)), some (e (coinage_30 : ((List Int) × (List Int)))), some (e (times_20 : Int)), some (e (values_27 : (List Int))), none, some d_paid_31, some d_gaps_44, none, some (e (can_51 : Bool)), o_is_whole_8, o_due_9, o_number_10, o_bad_11], eg_set, (eb_not (eb_tru (ei_var (i := 10) can_51 rfl))), fun hx_52 => (ED.o (ei_c (1 : Int) rfl))⟩))) (EN.ed (en_lst hc (er_nil (R := (v Int))) (szl (by decide))))) h fun is_whole_53 S1 k1 h => ?_)
    have hE_14 := Rep.mono _ (ct_st k1) hE_14
    have r_paid_31 := Rep.mono _ (ct_st k1) r_paid_31
    have r_gaps_44 := Rep.mono _ (ct_st k1) r_gaps_44
    have k0 := hBR.st k0 k1
    have hc := hc.st k1
    show d_law_5 EP _ [some (.lw (script.map D.int)), some (.ref b_), some (e (turn_2 : Int)), some (e (coinage_30 : ((List Int) × (List Int)))), some (e (times_20 : Int)), some (e (values_27 : (List Int))), none, some d_paid_31, some d_gaps_44, none, none, some (e (is_whole_53 : Bool)), o_due_9, o_number_10, o_bad_11] _
    unfold d_law_5
    refine seq_i (st_if (B := [b_]) (eb_tru (ei_var (i := 11) is_whole_53 rfl)) h (fun S1 k1 hb_ h => ?_) (fun S1 k1 hb_ h => ?_))
    · have hE_14 := Rep.mono _ (ct_st k1) hE_14
      have r_paid_31 := Rep.mono _ (ct_st k1) r_paid_31
      have r_gaps_44 := Rep.mono _ (ct_st k1) r_gaps_44
      have k0 := hBR.st k0 k1
      have hc := hc.st k1
      obtain ⟨o_58, h⟩ := h
      refine st_asgC (B := [b_]) (EN.ed (en_lst hc (er_cons (ED.o (ed_if (eb_b (el_ne (ed_var (i := 8) gaps_44 rfl r_gaps_44) (EN.ed (en_lst hc (er_nil (R := (v Int))) (szl (by decide)))))) (fun hx_56 => (ei_some (ei_lastL (ed_var (i := 8) gaps_44 rfl r_gaps_44) (o_58 hx_56)))) (fun hx_56 => (ei_some (ei_neg (ei_c (1 : Int) rfl)))))) (er_cons (ED.o (ei_some (ei_lenA (es_lst (ed_var (i := 8) gaps_44 rfl r_gaps_44))))) er_nil)) (szl (by decide : 2 ≤ 1000)))) h fun due_57 d_due_57 S1 k1 r_due_57 h => ?_
      have hE_14 := Rep.mono _ (ct_st k1) hE_14
      have r_paid_31 := Rep.mono _ (ct_st k1) r_paid_31
      have r_gaps_44 := Rep.mono _ (ct_st k1) r_gaps_44
      have k0 := hBR.st k0 k1
      have hc := hc.st k1
      show d_law_4 EP _ [some (.lw (script.map D.int)), some (.ref b_), some (e (turn_2 : Int)), some (e (coinage_30 : ((List Int) × (List Int)))), some (e (times_20 : Int)), some (e (values_27 : (List Int))), none, some d_paid_31, some d_gaps_44, none, none, some (e (is_whole_53 : Bool)), some d_due_57, o_number_10, o_bad_11] _
      unfold d_law_4
      obtain ⟨o_59, o_60, h⟩ := h
      refine seq_i (sw_if (B := [b_]) (ewb_not (ewb_tru (ew_alikeL (EW.unfr (EW.pure (EN.fr (en_lst hc (er_cons (ED.o (ED.i (ed_call hc (ea_cons (ED.o (ei_var (i := 3) coinage_30 rfl)) ea_nil) (fun K E h => (Gy.w_greatest_gap o_59) h)))) (er_cons (ED.o (ED.i (ed_call hc (ea_cons (ED.o (ei_var (i := 3) coinage_30 rfl)) ea_nil) (fun K E h => (Gy.w_gaps_many o_60) h)))) er_nil)) (szl (by decide : 2 ≤ 1000))) hc))) (EW.pure (ed_var (i := 12) due_57 rfl r_due_57))))) h (fun S1 k1 h => ?_) (fun S1 k1 h => ?_))
      · have hE_14 := Rep.mono _ (ct_st k1) hE_14
        have r_paid_31 := Rep.mono _ (ct_st k1) r_paid_31
        have r_gaps_44 := Rep.mono _ (ct_st k1) r_gaps_44
        have r_due_57 := Rep.mono _ (ct_st k1) r_due_57
        have k0 := hBR.st k0 k1
        have hc := hc.st k1
        try dsimp only
        refine (st_ret (B := [b_]) (ei_c false rfl) h fun v d S1 k1 r h => ?_)
        exact law_fin (d := d) hQ_ r h
      · have hE_14 := Rep.mono _ (ct_st k1) hE_14
        have r_paid_31 := Rep.mono _ (ct_st k1) r_paid_31
        have r_gaps_44 := Rep.mono _ (ct_st k1) r_gaps_44
        have r_due_57 := Rep.mono _ (ct_st k1) r_due_57
        have k0 := hBR.st k0 k1
        have hc := hc.st k1
        show (_ : DS) _ [some (.lw (script.map D.int)), some (.ref b_), some (e (turn_2 : Int)), some (e (coinage_30 : ((List Int) × (List Int)))), some (e (times_20 : Int)), some (e (values_27 : (List Int))), none, some d_paid_31, some d_gaps_44, none, none, some (e (is_whole_53 : Bool)), some d_due_57, o_number_10, o_bad_11] _
        show d_law_3 EP _ [some (.lw (script.map D.int)), some (.ref b_), some (e (turn_2 : Int)), some (e (coinage_30 : ((List Int) × (List Int)))), some (e (times_20 : Int)), some (e (values_27 : (List Int))), none, some d_paid_31, some d_gaps_44, none, none, some (e (is_whole_53 : Bool)), some d_due_57, o_number_10, o_bad_11] _
        unfold d_law_3
        refine seq_i (sw_for (B := [b_]) (fun (S2_ : Sto) (s_61 : Unit) (ρ_ : Nv) (S_ : Sto) => ∃ (o_number_63 : Option D) , ρ_ = [some (.lw (script.map D.int)), some (.ref b_), some (e (turn_2 : Int)), some (e (coinage_30 : ((List Int) × (List Int)))), some (e (times_20 : Int)), some (e (values_27 : (List Int))), none, some d_paid_31, some d_gaps_44, none, none, some (e (is_whole_53 : Bool)), some d_due_57, o_number_63, o_bad_11] ∧ (St [b_] S_bag) S_ ∧ Cx [b_] ([]) S_ ∧ (exR (ct [b_] ([]) S2_)).r (ct [b_] ([]) S_) () .non ∧ (exR (ct [b_] ([]) S2_15)).r (ct [b_] ([]) S_) () .non ∧ (lst (v Bool)).r (ct [b_] ([]) S_) paid_31 d_paid_31 ∧ (lst (v Int)).r (ct [b_] ([]) S_) gaps_44 d_gaps_44 ∧ (lst (v (Option Int))).r (ct [b_] ([]) S_) due_57 d_due_57) (itw_any (ews_l (EW.unfr (ew_sset hc (EW.unfr (ew_lst hc (ewl_cons (EW.pure (ED.o (O' := []) (ei_c (0 : Int) rfl))) (ewl_cons (EW.pure (ED.o (O' := []) (ei_sub (ei_lenA (es_lst (ed_var (i := 8) gaps_44 rfl r_gaps_44))) (ei_c (1 : Int) rfl)))) (ewl_cons (ew_take (i := 1) hc rfl (EW.pure (ED.o (O' := []) (ei_add (ei_lenA (es_lst (ed_var (i := 8) gaps_44 rfl r_gaps_44))) (ei_c (1 : Int) rfl))))) ewl_nil))))))))) h (fun S1 k1 => ⟨o_number_10, rfl, hBR.st k0 k1, hc.st k1, Ext.refl _, Rep.mono _ (ct_st k1) hE_14, Rep.mono _ (ct_st k1) r_paid_31, Rep.mono _ (ct_st k1) r_gaps_44, Rep.mono _ (ct_st k1) r_due_57⟩) (fun S2_ s_ ρ_ S_ a_ => by obtain ⟨_, _, _, _, hOwn_, _, _, _, _⟩ := a_; exact hOwn_) (fun S2_65 k2_ number_62 hx_ d_ s_61 next_ ρ_ S1 Kx_ a_ rx_ h kx_ => ?_) (fun S2_ s_61 ρ_ S1 k2_ h a_ => ?_))
        · obtain ⟨o_number_63, rfl, k0, hc, hE_64, hE_14, r_paid_31, r_gaps_44, r_due_57⟩ := a_
          cases rx_
          refine eg_set _ _ ?_
          show (_ : DS) _ [some (.lw (script.map D.int)), some (.ref b_), some (e (turn_2 : Int)), some (e (coinage_30 : ((List Int) × (List Int)))), some (e (times_20 : Int)), some (e (values_27 : (List Int))), none, some d_paid_31, some d_gaps_44, none, none, some (e (is_whole_53 : Bool)), some d_due_57, some (e (number_62 : Int)), o_bad_11] _
          have h := wJoin_o h
          refine sw_if (B := [b_]) (ewb_and (EWB.pure (eb_b (ei_chain (ei_c (0 : Int) rfl) (ei_var (i := 13) number_62 rfl) (fun hx_69 => (ei_lenA (es_lst (ed_var (i := 8) gaps_44 rfl r_gaps_44))))))) (EWB.ok (fun o_72 => (ewb_not (ewb_tru (ew_alike (ew_lam (R := (v D)) (Wh := Gn.W__law_heard (xD (Gy.F_nth_gap coinage_30 (e (number_62 : Int))))) (F := (Gn.F__law_heard (xD (Gy.F_nth_gap coinage_30 (e (number_62 : Int)))))) (ok := (Gy.ok_nth_gap coinage_30 (e (number_62 : Int)))) (okh := Gn.ok__law_heard (xD (Gy.F_nth_gap coinage_30 (e (number_62 : Int))))) (fun mk f S0 O Q EP hA hc h => Gn.pure__law_heard hA hc h) (fun oh K E h => Gn.w__law_heard oh h) hc (fun o_ SL kL_71 EX E_ hEl_ => (EW.xD (ok := Gy.ok_nth_gap coinage_30 (e (number_62 : Int))) (r := (Gy.F_nth_gap coinage_30 (e (number_62 : Int)))) (ew_callR (E := E_) (fun x : (((List Int) × (List Int)) × D × Unit) => Gy.ok_nth_gap x.1 x.2.1) (fun x : (((List Int) × (List Int)) × D × Unit) => Gy.F_nth_gap x.1 x.2.1) (fun er S2 k2 h => hEl_ er S2 (St.nil k2) h) (Cx.app (Cx.st hc kL_71)) (ewa_cons (EW.pure (ED.o (O' := ([] ++ [b_])) (ei_var (i := 3) coinage_30 rfl))) (ewa_cons (EW.pure (ED.o (O' := ([] ++ [b_])) (EI.any (ei_var (i := 13) number_62 rfl)))) ewa_nil)) (fun xs o_ K E h_ => Gy.w_nth_gap o_ h_)) o_))) (EW.pure (ED.o (O' := []) (EI.any (ei_tup (x := ((("told" : Str), (gI gaps_44 number_62)) : (Str × Int))) (el_cons (ei_c ("told" : Str) rfl) (el_cons (ei_atL (ed_var (i := 8) gaps_44 rfl r_gaps_44) (ei_var (i := 13) number_62 rfl) o_72) el_nil)) rfl (szl (by decide : 2 ≤ 1000)))))))))) (by intro K K' k z; repeat (first | exact k _ z | (refine And.intro (And.left z) ?_; replace z := And.right z) | (refine fun v hv => ?_; replace z := z v hv) | (refine wMap_mono ?_ _ ?_ z) | (refine wIf_mo (fun z => ?_) (fun z => ?_) z) | (refine wRes_mono ?_ z; clear z; intro v z))))) h (fun S1 k1 h => ?_) (fun S1 k1 h => ?_)
          · have hE_14 := Rep.mono _ (ct_st k1) hE_14
            have r_paid_31 := Rep.mono _ (ct_st k1) r_paid_31
            have r_gaps_44 := Rep.mono _ (ct_st k1) r_gaps_44
            have r_due_57 := Rep.mono _ (ct_st k1) r_due_57
            have hE_64 := Rep.mono _ (ct_st k1) hE_64
            have k0 := hBR.st k0 k1
            have hc := hc.st k1
            try dsimp only
            refine (st_ret (B := [b_]) (ei_c false rfl) h fun v d S1 k1 r h => ?_)
            exact law_fin (d := d) hQ_ r h
          · have hE_14 := Rep.mono _ (ct_st k1) hE_14
            have r_paid_31 := Rep.mono _ (ct_st k1) r_paid_31
            have r_gaps_44 := Rep.mono _ (ct_st k1) r_gaps_44
            have r_due_57 := Rep.mono _ (ct_st k1) r_due_57
            have hE_64 := Rep.mono _ (ct_st k1) hE_64
            have k0 := hBR.st k0 k1
            have hc := hc.st k1
            show (_ : DS) _ [some (.lw (script.map D.int)), some (.ref b_), some (e (turn_2 : Int)), some (e (coinage_30 : ((List Int) × (List Int)))), some (e (times_20 : Int)), some (e (values_27 : (List Int))), none, some d_paid_31, some d_gaps_44, none, none, some (e (is_whole_53 : Bool)), some d_due_57, some (e (number_62 : Int)), o_bad_11] _
            exact kx_ () _ _ h ⟨some (e (number_62 : Int)), rfl, k0, hc, hE_64, hE_14, r_paid_31, r_gaps_44, r_due_57⟩
        · obtain ⟨o_number_63, rfl, k0, hc, HOWN_, hE_14, r_paid_31, r_gaps_44, r_due_57⟩ := a_
          show d_law_2 EP _ [some (.lw (script.map D.int)), some (.ref b_), some (e (turn_2 : Int)), some (e (coinage_30 : ((List Int) × (List Int)))), some (e (times_20 : Int)), some (e (values_27 : (List Int))), none, some d_paid_31, some d_gaps_44, none, none, some (e (is_whole_53 : Bool)), some d_due_57, o_number_63, o_bad_11] _
          unfold d_law_2
          obtain ⟨o_78, h⟩ := h
          refine seq_i (st_asgC (B := [b_]) (EN.ed (en_add hc (EN.ed (en_lst hc (er_cons (ED.o (EI.any (ei_c () rfl))) (er_cons (ED.o (EI.any (ei_c true rfl))) (er_cons (ED.o (EI.any (ei_neg (ei_c (1 : Int) rfl)))) (er_cons (ED.o (EI.any (ei_c ("0" : Str) rfl))) er_nil)))) (szl (by decide : 4 ≤ 1000)))) (EN.ed (en_if hc (eb_tru (ei_var (i := 11) is_whole_53 rfl)) (fun hx_76 => (en_lst hc (er_cons (ED.o (EI.any (ei_lenA (es_lst (ed_var (i := 8) gaps_44 rfl r_gaps_44))))) (er_cons (ED.o (EI.any (ei_add (ei_lenA (es_lst (ed_var (i := 8) gaps_44 rfl r_gaps_44))) (ei_c (5 : Int) rfl)))) er_nil)) (szl (by decide : 2 ≤ 1000)))) (fun hx_76 => (en_lst hc (er_nil (R := (v D))) (szl (by decide)))))) o_78)) h fun bad_77 d_bad_77 S1 k1 r_bad_77 h => ?_)
          have hE_14 := Rep.mono _ (ct_st k1) hE_14
          have r_paid_31 := Rep.mono _ (ct_st k1) r_paid_31
          have r_gaps_44 := Rep.mono _ (ct_st k1) r_gaps_44
          have r_due_57 := Rep.mono _ (ct_st k1) r_due_57
          have k0 := hBR.st k0 k1
          have hc := hc.st k1
          show d_law_1 EP _ [some (.lw (script.map D.int)), some (.ref b_), some (e (turn_2 : Int)), some (e (coinage_30 : ((List Int) × (List Int)))), some (e (times_20 : Int)), some (e (values_27 : (List Int))), none, some d_paid_31, some d_gaps_44, none, none, some (e (is_whole_53 : Bool)), some d_due_57, o_number_63, some d_bad_77] _
          unfold d_law_1
          refine st_for (B := [b_]) (fun (S2_ : Sto) (s_79 : Unit) (ρ_ : Nv) (S_ : Sto) => ∃ (o_number_81 : Option D) , ρ_ = [some (.lw (script.map D.int)), some (.ref b_), some (e (turn_2 : Int)), some (e (coinage_30 : ((List Int) × (List Int)))), some (e (times_20 : Int)), some (e (values_27 : (List Int))), none, some d_paid_31, some d_gaps_44, none, none, some (e (is_whole_53 : Bool)), some d_due_57, o_number_81, some d_bad_77] ∧ (St [b_] S_bag) S_ ∧ Cx [b_] ([]) S_ ∧ (exR (ct [b_] ([]) S2_)).r (ct [b_] ([]) S_) () .non ∧ (exR (ct [b_] ([]) S2_15)).r (ct [b_] ([]) S_) () .non ∧ (lst (v Bool)).r (ct [b_] ([]) S_) paid_31 d_paid_31 ∧ (lst (v Int)).r (ct [b_] ([]) S_) gaps_44 d_gaps_44 ∧ (lst (v (Option Int))).r (ct [b_] ([]) S_) due_57 d_due_57 ∧ (lst (v D)).r (ct [b_] ([]) S_) bad_77 d_bad_77) (it_any (es_lst (ed_var (i := 14) bad_77 rfl r_bad_77))) h (fun S1 k1 => ⟨o_number_63, rfl, hBR.st k0 k1, hc.st k1, Ext.refl _, Rep.mono _ (ct_st k1) hE_14, Rep.mono _ (ct_st k1) r_paid_31, Rep.mono _ (ct_st k1) r_gaps_44, Rep.mono _ (ct_st k1) r_due_57, Rep.mono _ (ct_st k1) r_bad_77⟩) (fun S2_ s_ ρ_ S_ a_ => by obtain ⟨_, _, _, _, hOwn_, _, _, _, _, _⟩ := a_; exact hOwn_) (fun S2_83 k2_ number_80 hx_ d_ s_79 next_ ρ_ S1 Kx_ a_ rx_ h kx_ => ?_) (fun S2_ s_79 ρ_ S1 k2_ h a_ => ?_)
          · obtain ⟨o_number_81, rfl, k0, hc, hE_82, hE_14, r_paid_31, r_gaps_44, r_due_57, r_bad_77⟩ := a_
            cases rx_
            refine eg_set _ _ ?_
            show (_ : DS) _ [some (.lw (script.map D.int)), some (.ref b_), some (e (turn_2 : Int)), some (e (coinage_30 : ((List Int) × (List Int)))), some (e (times_20 : Int)), some (e (values_27 : (List Int))), none, some d_paid_31, some d_gaps_44, none, none, some (e (is_whole_53 : Bool)), some d_due_57, some (e (number_80 : D)), some d_bad_77] _
            refine sw_if (B := [b_]) (ewb_b (ew_neD (ew_lam (R := (v D)) (Wh := Gn.W__law_heard (xD (Gy.F_nth_gap coinage_30 number_80))) (F := (Gn.F__law_heard (xD (Gy.F_nth_gap coinage_30 number_80)))) (ok := (Gy.ok_nth_gap coinage_30 number_80)) (okh := Gn.ok__law_heard (xD (Gy.F_nth_gap coinage_30 number_80))) (fun mk f S0 O Q EP hA hc h => Gn.pure__law_heard hA hc h) (fun oh K E h => Gn.w__law_heard oh h) hc (fun o_ SL kL_87 EX E_ hEl_ => (EW.xD (ok := Gy.ok_nth_gap coinage_30 number_80) (r := (Gy.F_nth_gap coinage_30 number_80)) (ew_callR (E := E_) (fun x : (((List Int) × (List Int)) × D × Unit) => Gy.ok_nth_gap x.1 x.2.1) (fun x : (((List Int) × (List Int)) × D × Unit) => Gy.F_nth_gap x.1 x.2.1) (fun er S2 k2 h => hEl_ er S2 (St.nil k2) h) (Cx.app (Cx.st hc kL_87)) (ewa_cons (EW.pure (ED.o (O' := ([] ++ [b_])) (ei_var (i := 3) coinage_30 rfl))) (ewa_cons (EW.pure (ED.o (O' := ([] ++ [b_])) (ei_var (i := 13) number_80 rfl))) ewa_nil)) (fun xs o_ K E h_ => Gy.w_nth_gap o_ h_)) o_))) (EW.any (EW.pure (ED.o (O' := []) (ei_tup (x := ([("nothing" : Str)] : (List Str))) (el_cons (ei_c ("nothing" : Str) rfl) el_nil) rfl (szl (by decide : 1 ≤ 1000)))))))) h (fun S1 k1 h => ?_) (fun S1 k1 h => ?_)
            · have hE_14 := Rep.mono _ (ct_st k1) hE_14
              have r_paid_31 := Rep.mono _ (ct_st k1) r_paid_31
              have r_gaps_44 := Rep.mono _ (ct_st k1) r_gaps_44
              have r_due_57 := Rep.mono _ (ct_st k1) r_due_57
              have r_bad_77 := Rep.mono _ (ct_st k1) r_bad_77
              have hE_82 := Rep.mono _ (ct_st k1) hE_82
              have k0 := hBR.st k0 k1
              have hc := hc.st k1
              try dsimp only
              refine (st_ret (B := [b_]) (ei_c false rfl) h fun v d S1 k1 r h => ?_)
              exact law_fin (d := d) hQ_ r h
            · have hE_14 := Rep.mono _ (ct_st k1) hE_14
              have r_paid_31 := Rep.mono _ (ct_st k1) r_paid_31
              have r_gaps_44 := Rep.mono _ (ct_st k1) r_gaps_44
              have r_due_57 := Rep.mono _ (ct_st k1) r_due_57
              have r_bad_77 := Rep.mono _ (ct_st k1) r_bad_77
              have hE_82 := Rep.mono _ (ct_st k1) hE_82
              have k0 := hBR.st k0 k1
              have hc := hc.st k1
              show (_ : DS) _ [some (.lw (script.map D.int)), some (.ref b_), some (e (turn_2 : Int)), some (e (coinage_30 : ((List Int) × (List Int)))), some (e (times_20 : Int)), some (e (values_27 : (List Int))), none, some d_paid_31, some d_gaps_44, none, none, some (e (is_whole_53 : Bool)), some d_due_57, some (e (number_80 : D)), some d_bad_77] _
              exact kx_ () _ _ h ⟨some (e (number_80 : D)), rfl, k0, hc, hE_82, hE_14, r_paid_31, r_gaps_44, r_due_57, r_bad_77⟩
          · obtain ⟨o_number_81, rfl, k0, hc, HOWN_, hE_14, r_paid_31, r_gaps_44, r_due_57, r_bad_77⟩ := a_
            exact kx_ () _ _ h ⟨some (e (coinage_30 : ((List Int) × (List Int)))), some (e (times_20 : Int)), some (e (values_27 : (List Int))), some d_paid_31, some d_gaps_44, some (e (is_whole_53 : Bool)), some d_due_57, o_number_81, some d_bad_77, some (e (turn_2 : Int)), rfl, k0, hc, hE_14⟩
    · have hE_14 := Rep.mono _ (ct_st k1) hE_14
      have r_paid_31 := Rep.mono _ (ct_st k1) r_paid_31
      have r_gaps_44 := Rep.mono _ (ct_st k1) r_gaps_44
      have k0 := hBR.st k0 k1
      have hc := hc.st k1
      refine st_asgC (B := [b_]) (EN.ed (en_lst hc (er_cons (ED.o ei_none) (er_cons (ED.o ei_none) er_nil)) (szl (by decide : 2 ≤ 1000)))) h fun due_89 d_due_89 S1 k1 r_due_89 h => ?_
      have hE_14 := Rep.mono _ (ct_st k1) hE_14
      have r_paid_31 := Rep.mono _ (ct_st k1) r_paid_31
      have r_gaps_44 := Rep.mono _ (ct_st k1) r_gaps_44
      have k0 := hBR.st k0 k1
      have hc := hc.st k1
      show d_law_4 EP _ [some (.lw (script.map D.int)), some (.ref b_), some (e (turn_2 : Int)), some (e (coinage_30 : ((List Int) × (List Int)))), some (e (times_20 : Int)), some (e (values_27 : (List Int))), none, some d_paid_31, some d_gaps_44, none, none, some (e (is_whole_53 : Bool)), some d_due_89, o_number_10, o_bad_11] _
      unfold d_law_4
      obtain ⟨o_90, o_91, h⟩ := h
      refine seq_i (sw_if (B := [b_]) (ewb_not (ewb_tru (ew_alikeL (EW.unfr (EW.pure (EN.fr (en_lst hc (er_cons (ED.o (ED.i (ed_call hc (ea_cons (ED.o (ei_var (i := 3) coinage_30 rfl)) ea_nil) (fun K E h => (Gy.w_greatest_gap o_90) h)))) (er_cons (ED.o (ED.i (ed_call hc (ea_cons (ED.o (ei_var (i := 3) coinage_30 rfl)) ea_nil) (fun K E h => (Gy.w_gaps_many o_91) h)))) er_nil)) (szl (by decide : 2 ≤ 1000))) hc))) (EW.pure (ed_var (i := 12) due_89 rfl r_due_89))))) h (fun S1 k1 h => ?_) (fun S1 k1 h => ?_))
      · have hE_14 := Rep.mono _ (ct_st k1) hE_14
        have r_paid_31 := Rep.mono _ (ct_st k1) r_paid_31
        have r_gaps_44 := Rep.mono _ (ct_st k1) r_gaps_44
        have r_due_89 := Rep.mono _ (ct_st k1) r_due_89
        have k0 := hBR.st k0 k1
        have hc := hc.st k1
        try dsimp only
        refine (st_ret (B := [b_]) (ei_c false rfl) h fun v d S1 k1 r h => ?_)
        exact law_fin (d := d) hQ_ r h
      · have hE_14 := Rep.mono _ (ct_st k1) hE_14
        have r_paid_31 := Rep.mono _ (ct_st k1) r_paid_31
        have r_gaps_44 := Rep.mono _ (ct_st k1) r_gaps_44
        have r_due_89 := Rep.mono _ (ct_st k1) r_due_89
        have k0 := hBR.st k0 k1
        have hc := hc.st k1
        show (_ : DS) _ [some (.lw (script.map D.int)), some (.ref b_), some (e (turn_2 : Int)), some (e (coinage_30 : ((List Int) × (List Int)))), some (e (times_20 : Int)), some (e (values_27 : (List Int))), none, some d_paid_31, some d_gaps_44, none, none, some (e (is_whole_53 : Bool)), some d_due_89, o_number_10, o_bad_11] _
        show d_law_3 EP _ [some (.lw (script.map D.int)), some (.ref b_), some (e (turn_2 : Int)), some (e (coinage_30 : ((List Int) × (List Int)))), some (e (times_20 : Int)), some (e (values_27 : (List Int))), none, some d_paid_31, some d_gaps_44, none, none, some (e (is_whole_53 : Bool)), some d_due_89, o_number_10, o_bad_11] _
        unfold d_law_3
        refine seq_i (sw_for (B := [b_]) (fun (S2_ : Sto) (s_92 : Unit) (ρ_ : Nv) (S_ : Sto) => ∃ (o_number_94 : Option D) , ρ_ = [some (.lw (script.map D.int)), some (.ref b_), some (e (turn_2 : Int)), some (e (coinage_30 : ((List Int) × (List Int)))), some (e (times_20 : Int)), some (e (values_27 : (List Int))), none, some d_paid_31, some d_gaps_44, none, none, some (e (is_whole_53 : Bool)), some d_due_89, o_number_94, o_bad_11] ∧ (St [b_] S_bag) S_ ∧ Cx [b_] ([]) S_ ∧ (exR (ct [b_] ([]) S2_)).r (ct [b_] ([]) S_) () .non ∧ (exR (ct [b_] ([]) S2_15)).r (ct [b_] ([]) S_) () .non ∧ (lst (v Bool)).r (ct [b_] ([]) S_) paid_31 d_paid_31 ∧ (lst (v Int)).r (ct [b_] ([]) S_) gaps_44 d_gaps_44 ∧ (lst (v (Option Int))).r (ct [b_] ([]) S_) due_89 d_due_89) (itw_any (ews_l (EW.unfr (ew_sset hc (EW.unfr (ew_lst hc (ewl_cons (EW.pure (ED.o (O' := []) (ei_c (0 : Int) rfl))) (ewl_cons (EW.pure (ED.o (O' := []) (ei_sub (ei_lenA (es_lst (ed_var (i := 8) gaps_44 rfl r_gaps_44))) (ei_c (1 : Int) rfl)))) (ewl_cons (ew_take (i := 1) hc rfl (EW.pure (ED.o (O' := []) (ei_add (ei_lenA (es_lst (ed_var (i := 8) gaps_44 rfl r_gaps_44))) (ei_c (1 : Int) rfl))))) ewl_nil))))))))) h (fun S1 k1 => ⟨o_number_10, rfl, hBR.st k0 k1, hc.st k1, Ext.refl _, Rep.mono _ (ct_st k1) hE_14, Rep.mono _ (ct_st k1) r_paid_31, Rep.mono _ (ct_st k1) r_gaps_44, Rep.mono _ (ct_st k1) r_due_89⟩) (fun S2_ s_ ρ_ S_ a_ => by obtain ⟨_, _, _, _, hOwn_, _, _, _, _⟩ := a_; exact hOwn_) (fun S2_96 k2_ number_93 hx_ d_ s_92 next_ ρ_ S1 Kx_ a_ rx_ h kx_ => ?_) (fun S2_ s_92 ρ_ S1 k2_ h a_ => ?_))
        · obtain ⟨o_number_94, rfl, k0, hc, hE_95, hE_14, r_paid_31, r_gaps_44, r_due_89⟩ := a_
          cases rx_
          refine eg_set _ _ ?_
          show (_ : DS) _ [some (.lw (script.map D.int)), some (.ref b_), some (e (turn_2 : Int)), some (e (coinage_30 : ((List Int) × (List Int)))), some (e (times_20 : Int)), some (e (values_27 : (List Int))), none, some d_paid_31, some d_gaps_44, none, none, some (e (is_whole_53 : Bool)), some d_due_89, some (e (number_93 : Int)), o_bad_11] _
          have h := wJoin_o h
          refine sw_if (B := [b_]) (ewb_and (EWB.pure (eb_b (ei_chain (ei_c (0 : Int) rfl) (ei_var (i := 13) number_93 rfl) (fun hx_100 => (ei_lenA (es_lst (ed_var (i := 8) gaps_44 rfl r_gaps_44))))))) (EWB.ok (fun o_103 => (ewb_not (ewb_tru (ew_alike (ew_lam (R := (v D)) (Wh := Gn.W__law_heard (xD (Gy.F_nth_gap coinage_30 (e (number_93 : Int))))) (F := (Gn.F__law_heard (xD (Gy.F_nth_gap coinage_30 (e (number_93 : Int)))))) (ok := (Gy.ok_nth_gap coinage_30 (e (number_93 : Int)))) (okh := Gn.ok__law_heard (xD (Gy.F_nth_gap coinage_30 (e (number_93 : Int))))) (fun mk f S0 O Q EP hA hc h => Gn.pure__law_heard hA hc h) (fun oh K E h => Gn.w__law_heard oh h) hc (fun o_ SL kL_102 EX E_ hEl_ => (EW.xD (ok := Gy.ok_nth_gap coinage_30 (e (number_93 : Int))) (r := (Gy.F_nth_gap coinage_30 (e (number_93 : Int)))) (ew_callR (E := E_) (fun x : (((List Int) × (List Int)) × D × Unit) => Gy.ok_nth_gap x.1 x.2.1) (fun x : (((List Int) × (List Int)) × D × Unit) => Gy.F_nth_gap x.1 x.2.1) (fun er S2 k2 h => hEl_ er S2 (St.nil k2) h) (Cx.app (Cx.st hc kL_102)) (ewa_cons (EW.pure (ED.o (O' := ([] ++ [b_])) (ei_var (i := 3) coinage_30 rfl))) (ewa_cons (EW.pure (ED.o (O' := ([] ++ [b_])) (EI.any (ei_var (i := 13) number_93 rfl)))) ewa_nil)) (fun xs o_ K E h_ => Gy.w_nth_gap o_ h_)) o_))) (EW.pure (ED.o (O' := []) (EI.any (ei_tup (x := ((("told" : Str), (gI gaps_44 number_93)) : (Str × Int))) (el_cons (ei_c ("told" : Str) rfl) (el_cons (ei_atL (ed_var (i := 8) gaps_44 rfl r_gaps_44) (ei_var (i := 13) number_93 rfl) o_103) el_nil)) rfl (szl (by decide : 2 ≤ 1000)))))))))) (by intro K K' k z; repeat (first | exact k _ z | (refine And.intro (And.left z) ?_; replace z := And.right z) | (refine fun v hv => ?_; replace z := z v hv) | (refine wMap_mono ?_ _ ?_ z) | (refine wIf_mo (fun z => ?_) (fun z => ?_) z) | (refine wRes_mono ?_ z; clear z; intro v z))))) h (fun S1 k1 h => ?_) (fun S1 k1 h => ?_)
          · have hE_14 := Rep.mono _ (ct_st k1) hE_14
            have r_paid_31 := Rep.mono _ (ct_st k1) r_paid_31
            have r_gaps_44 := Rep.mono _ (ct_st k1) r_gaps_44
            have r_due_89 := Rep.mono _ (ct_st k1) r_due_89
            have hE_95 := Rep.mono _ (ct_st k1) hE_95
            have k0 := hBR.st k0 k1
            have hc := hc.st k1
            try dsimp only
            refine (st_ret (B := [b_]) (ei_c false rfl) h fun v d S1 k1 r h => ?_)
            exact law_fin (d := d) hQ_ r h
          · have hE_14 := Rep.mono _ (ct_st k1) hE_14
            have r_paid_31 := Rep.mono _ (ct_st k1) r_paid_31
            have r_gaps_44 := Rep.mono _ (ct_st k1) r_gaps_44
            have r_due_89 := Rep.mono _ (ct_st k1) r_due_89
            have hE_95 := Rep.mono _ (ct_st k1) hE_95
            have k0 := hBR.st k0 k1
            have hc := hc.st k1
            show (_ : DS) _ [some (.lw (script.map D.int)), some (.ref b_), some (e (turn_2 : Int)), some (e (coinage_30 : ((List Int) × (List Int)))), some (e (times_20 : Int)), some (e (values_27 : (List Int))), none, some d_paid_31, some d_gaps_44, none, none, some (e (is_whole_53 : Bool)), some d_due_89, some (e (number_93 : Int)), o_bad_11] _
            exact kx_ () _ _ h ⟨some (e (number_93 : Int)), rfl, k0, hc, hE_95, hE_14, r_paid_31, r_gaps_44, r_due_89⟩
        · obtain ⟨o_number_94, rfl, k0, hc, HOWN_, hE_14, r_paid_31, r_gaps_44, r_due_89⟩ := a_
          show d_law_2 EP _ [some (.lw (script.map D.int)), some (.ref b_), some (e (turn_2 : Int)), some (e (coinage_30 : ((List Int) × (List Int)))), some (e (times_20 : Int)), some (e (values_27 : (List Int))), none, some d_paid_31, some d_gaps_44, none, none, some (e (is_whole_53 : Bool)), some d_due_89, o_number_94, o_bad_11] _
          unfold d_law_2
          obtain ⟨o_109, h⟩ := h
          refine seq_i (st_asgC (B := [b_]) (EN.ed (en_add hc (EN.ed (en_lst hc (er_cons (ED.o (EI.any (ei_c () rfl))) (er_cons (ED.o (EI.any (ei_c true rfl))) (er_cons (ED.o (EI.any (ei_neg (ei_c (1 : Int) rfl)))) (er_cons (ED.o (EI.any (ei_c ("0" : Str) rfl))) er_nil)))) (szl (by decide : 4 ≤ 1000)))) (EN.ed (en_if hc (eb_tru (ei_var (i := 11) is_whole_53 rfl)) (fun hx_107 => (en_lst hc (er_cons (ED.o (EI.any (ei_lenA (es_lst (ed_var (i := 8) gaps_44 rfl r_gaps_44))))) (er_cons (ED.o (EI.any (ei_add (ei_lenA (es_lst (ed_var (i := 8) gaps_44 rfl r_gaps_44))) (ei_c (5 : Int) rfl)))) er_nil)) (szl (by decide : 2 ≤ 1000)))) (fun hx_107 => (en_lst hc (er_nil (R := (v D))) (szl (by decide)))))) o_109)) h fun bad_108 d_bad_108 S1 k1 r_bad_108 h => ?_)
          have hE_14 := Rep.mono _ (ct_st k1) hE_14
          have r_paid_31 := Rep.mono _ (ct_st k1) r_paid_31
          have r_gaps_44 := Rep.mono _ (ct_st k1) r_gaps_44
          have r_due_89 := Rep.mono _ (ct_st k1) r_due_89
          have k0 := hBR.st k0 k1
          have hc := hc.st k1
          show d_law_1 EP _ [some (.lw (script.map D.int)), some (.ref b_), some (e (turn_2 : Int)), some (e (coinage_30 : ((List Int) × (List Int)))), some (e (times_20 : Int)), some (e (values_27 : (List Int))), none, some d_paid_31, some d_gaps_44, none, none, some (e (is_whole_53 : Bool)), some d_due_89, o_number_94, some d_bad_108] _
          unfold d_law_1
          refine st_for (B := [b_]) (fun (S2_ : Sto) (s_110 : Unit) (ρ_ : Nv) (S_ : Sto) => ∃ (o_number_112 : Option D) , ρ_ = [some (.lw (script.map D.int)), some (.ref b_), some (e (turn_2 : Int)), some (e (coinage_30 : ((List Int) × (List Int)))), some (e (times_20 : Int)), some (e (values_27 : (List Int))), none, some d_paid_31, some d_gaps_44, none, none, some (e (is_whole_53 : Bool)), some d_due_89, o_number_112, some d_bad_108] ∧ (St [b_] S_bag) S_ ∧ Cx [b_] ([]) S_ ∧ (exR (ct [b_] ([]) S2_)).r (ct [b_] ([]) S_) () .non ∧ (exR (ct [b_] ([]) S2_15)).r (ct [b_] ([]) S_) () .non ∧ (lst (v Bool)).r (ct [b_] ([]) S_) paid_31 d_paid_31 ∧ (lst (v Int)).r (ct [b_] ([]) S_) gaps_44 d_gaps_44 ∧ (lst (v (Option Int))).r (ct [b_] ([]) S_) due_89 d_due_89 ∧ (lst (v D)).r (ct [b_] ([]) S_) bad_108 d_bad_108) (it_any (es_lst (ed_var (i := 14) bad_108 rfl r_bad_108))) h (fun S1 k1 => ⟨o_number_94, rfl, hBR.st k0 k1, hc.st k1, Ext.refl _, Rep.mono _ (ct_st k1) hE_14, Rep.mono _ (ct_st k1) r_paid_31, Rep.mono _ (ct_st k1) r_gaps_44, Rep.mono _ (ct_st k1) r_due_89, Rep.mono _ (ct_st k1) r_bad_108⟩) (fun S2_ s_ ρ_ S_ a_ => by obtain ⟨_, _, _, _, hOwn_, _, _, _, _, _⟩ := a_; exact hOwn_) (fun S2_114 k2_ number_111 hx_ d_ s_110 next_ ρ_ S1 Kx_ a_ rx_ h kx_ => ?_) (fun S2_ s_110 ρ_ S1 k2_ h a_ => ?_)
          · obtain ⟨o_number_112, rfl, k0, hc, hE_113, hE_14, r_paid_31, r_gaps_44, r_due_89, r_bad_108⟩ := a_
            cases rx_
            refine eg_set _ _ ?_
            show (_ : DS) _ [some (.lw (script.map D.int)), some (.ref b_), some (e (turn_2 : Int)), some (e (coinage_30 : ((List Int) × (List Int)))), some (e (times_20 : Int)), some (e (values_27 : (List Int))), none, some d_paid_31, some d_gaps_44, none, none, some (e (is_whole_53 : Bool)), some d_due_89, some (e (number_111 : D)), some d_bad_108] _
            refine sw_if (B := [b_]) (ewb_b (ew_neD (ew_lam (R := (v D)) (Wh := Gn.W__law_heard (xD (Gy.F_nth_gap coinage_30 number_111))) (F := (Gn.F__law_heard (xD (Gy.F_nth_gap coinage_30 number_111)))) (ok := (Gy.ok_nth_gap coinage_30 number_111)) (okh := Gn.ok__law_heard (xD (Gy.F_nth_gap coinage_30 number_111))) (fun mk f S0 O Q EP hA hc h => Gn.pure__law_heard hA hc h) (fun oh K E h => Gn.w__law_heard oh h) hc (fun o_ SL kL_118 EX E_ hEl_ => (EW.xD (ok := Gy.ok_nth_gap coinage_30 number_111) (r := (Gy.F_nth_gap coinage_30 number_111)) (ew_callR (E := E_) (fun x : (((List Int) × (List Int)) × D × Unit) => Gy.ok_nth_gap x.1 x.2.1) (fun x : (((List Int) × (List Int)) × D × Unit) => Gy.F_nth_gap x.1 x.2.1) (fun er S2 k2 h => hEl_ er S2 (St.nil k2) h) (Cx.app (Cx.st hc kL_118)) (ewa_cons (EW.pure (ED.o (O' := ([] ++ [b_])) (ei_var (i := 3) coinage_30 rfl))) (ewa_cons (EW.pure (ED.o (O' := ([] ++ [b_])) (ei_var (i := 13) number_111 rfl))) ewa_nil)) (fun xs o_ K E h_ => Gy.w_nth_gap o_ h_)) o_))) (EW.any (EW.pure (ED.o (O' := []) (ei_tup (x := ([("nothing" : Str)] : (List Str))) (el_cons (ei_c ("nothing" : Str) rfl) el_nil) rfl (szl (by decide : 1 ≤ 1000)))))))) h (fun S1 k1 h => ?_) (fun S1 k1 h => ?_)
            · have hE_14 := Rep.mono _ (ct_st k1) hE_14
              have r_paid_31 := Rep.mono _ (ct_st k1) r_paid_31
              have r_gaps_44 := Rep.mono _ (ct_st k1) r_gaps_44
              have r_due_89 := Rep.mono _ (ct_st k1) r_due_89
              have r_bad_108 := Rep.mono _ (ct_st k1) r_bad_108
              have hE_113 := Rep.mono _ (ct_st k1) hE_113
              have k0 := hBR.st k0 k1
              have hc := hc.st k1
              try dsimp only
              refine (st_ret (B := [b_]) (ei_c false rfl) h fun v d S1 k1 r h => ?_)
              exact law_fin (d := d) hQ_ r h
            · have hE_14 := Rep.mono _ (ct_st k1) hE_14
              have r_paid_31 := Rep.mono _ (ct_st k1) r_paid_31
              have r_gaps_44 := Rep.mono _ (ct_st k1) r_gaps_44
              have r_due_89 := Rep.mono _ (ct_st k1) r_due_89
              have r_bad_108 := Rep.mono _ (ct_st k1) r_bad_108
              have hE_113 := Rep.mono _ (ct_st k1) hE_113
              have k0 := hBR.st k0 k1
              have hc := hc.st k1
              show (_ : DS) _ [some (.lw (script.map D.int)), some (.ref b_), some (e (turn_2 : Int)), some (e (coinage_30 : ((List Int) × (List Int)))), some (e (times_20 : Int)), some (e (values_27 : (List Int))), none, some d_paid_31, some d_gaps_44, none, none, some (e (is_whole_53 : Bool)), some d_due_89, some (e (number_111 : D)), some d_bad_108] _
              exact kx_ () _ _ h ⟨some (e (number_111 : D)), rfl, k0, hc, hE_113, hE_14, r_paid_31, r_gaps_44, r_due_89, r_bad_108⟩
          · obtain ⟨o_number_112, rfl, k0, hc, HOWN_, hE_14, r_paid_31, r_gaps_44, r_due_89, r_bad_108⟩ := a_
            exact kx_ () _ _ h ⟨some (e (coinage_30 : ((List Int) × (List Int)))), some (e (times_20 : Int)), some (e (values_27 : (List Int))), some d_paid_31, some d_gaps_44, some (e (is_whole_53 : Bool)), some d_due_89, o_number_112, some d_bad_108, some (e (turn_2 : Int)), rfl, k0, hc, hE_14⟩
  · obtain ⟨o_coinage_3, o_times_4, o_values_5, o_paid_6, o_gaps_7, o_is_whole_8, o_due_9, o_number_10, o_bad_11, o_turn_12, rfl, k0, hc, HOWN_⟩ := a_
    show (_ : DS) _ [some (.lw (script.map D.int)), some (.ref b_), o_turn_12, o_coinage_3, o_times_4, o_values_5, none, o_paid_6, o_gaps_7, none, none, o_is_whole_8, o_due_9, o_number_10, o_bad_11] _
    try dsimp only
    refine (st_ret (B := [b_]) (ei_c true rfl) h fun v d S1 k1 r h => ?_)
    exact law_fin (d := d) hQ_ r h
theorem pure_law : ∀ ds S Q EP, sp_law ds S Q EP → d_law EP { nx := fun _ S' => Q .non S', rt := Q } (startD 15 ds) S := pure_law0 law_ok
end
end Hr
set_option Elab.async false
set_option linter.all false
set_option maxRecDepth 100000
set_option maxHeartbeats 4000000
namespace K05
open PySem DL L2 Ca Cb Cc Cf Wa Wb
abbrev sp_unit_of : FSp := Gk.sp_unit_of
abbrev sp_spread : FSp := Gy.sp_spread
abbrev sp_least_amounts : FSp := Gy.sp_least_amounts
abbrev sp_greatest_gap : FSp := Gy.sp_greatest_gap
abbrev sp_gaps_many : FSp := Gy.sp_gaps_many
abbrev sp_is_integer : FSp := Ca.sp_is_integer
abbrev sp_gaps_below : FSp := Gy.sp_gaps_below
abbrev sp_nth_gap : FSp := Gy.sp_nth_gap
abbrev sp__law_bag : FSp := Cb.sp__law_bag
abbrev sp__law_take : FSp := Cb.sp__law_take
abbrev sp__law_some : FSp := Cc.sp__law_some
abbrev sp__law_alike : FSp := Cc.sp__law_alike
abbrev sp__law_mixed : FSp := Cc.sp__law_mixed
abbrev sp__law_coinage : FSp := Gh.sp__law_coinage
abbrev sp__law_paid : FSp := Gy.sp__law_paid
abbrev sp_law : FSp := Hr.sp_law
def tab : Str → Option FSp := fun y => none
end K05
set_option Elab.async false
set_option linter.all false
set_option maxRecDepth 100000
namespace K05
open PySem DL
abbrev d_unit_of := Gk.d_unit_of
abbrev d_spread := Gy.d_spread
abbrev d_least_amounts := Gy.d_least_amounts
abbrev d_greatest_gap := Gy.d_greatest_gap
abbrev d_gaps_many := Gy.d_gaps_many
abbrev d_is_integer := Ca.d_is_integer
abbrev d_gaps_below := Gy.d_gaps_below
abbrev d_nth_gap := Gy.d_nth_gap
abbrev d__law_bag := Cb.d__law_bag
abbrev d__law_take := Cb.d__law_take
abbrev d__law_some := Cc.d__law_some
abbrev d__law_alike := Cc.d__law_alike
abbrev d__law_mixed := Cc.d__law_mixed
abbrev d__law_coinage := Gh.d__law_coinage
abbrev d__law_heard := Gn.d__law_heard
abbrev d__law_paid := Gy.d__law_paid
abbrev d_law := Hr.d_law
end K05
set_option Elab.async false
set_option linter.all false
set_option maxRecDepth 100000
set_option maxHeartbeats 4000000
namespace K05
open PySem DL L2 Ca Cb Cc Cf Wa Wb
theorem len_unit_of : ∀ ds S P EP, sp_unit_of ds S P EP → ds.length = 1 := Gk.len_unit_of
theorem pure_unit_of : ∀ ds S Q EP, sp_unit_of ds S Q EP → d_unit_of EP { nx := fun _ S' => Q .non S', rt := Q } (startD 5 ds) S := Gk.pure_unit_of
theorem len_spread : ∀ ds S P EP, sp_spread ds S P EP → ds.length = 2 := Gy.len_spread
theorem pure_spread : ∀ ds S Q EP, sp_spread ds S Q EP → d_spread EP { nx := fun _ S' => Q .non S', rt := Q } (startD 10 ds) S := Gy.pure_spread
theorem len_least_amounts : ∀ ds S P EP, sp_least_amounts ds S P EP → ds.length = 1 := Gy.len_least_amounts
theorem pure_least_amounts : ∀ ds S Q EP, sp_least_amounts ds S Q EP → d_least_amounts EP { nx := fun _ S' => Q .non S', rt := Q } (startD 5 ds) S := Gy.pure_least_amounts
theorem len_greatest_gap : ∀ ds S P EP, sp_greatest_gap ds S P EP → ds.length = 1 := Gy.len_greatest_gap
theorem pure_greatest_gap : ∀ ds S Q EP, sp_greatest_gap ds S Q EP → d_greatest_gap EP { nx := fun _ S' => Q .non S', rt := Q } (startD 1 ds) S := Gy.pure_greatest_gap
theorem len_gaps_many : ∀ ds S P EP, sp_gaps_many ds S P EP → ds.length = 1 := Gy.len_gaps_many
theorem pure_gaps_many : ∀ ds S Q EP, sp_gaps_many ds S Q EP → d_gaps_many EP { nx := fun _ S' => Q .non S', rt := Q } (startD 2 ds) S := Gy.pure_gaps_many
theorem len_is_integer : ∀ ds S P EP, sp_is_integer ds S P EP → ds.length = 1 := Ca.len_is_integer
theorem pure_is_integer : ∀ ds S Q EP, sp_is_integer ds S Q EP → d_is_integer EP { nx := fun _ S' => Q .non S', rt := Q } (startD 1 ds) S := Ca.pure_is_integer
theorem len_gaps_below : ∀ ds S P EP, sp_gaps_below ds S P EP → ds.length = 2 := Gy.len_gaps_below
theorem pure_gaps_below : ∀ ds S Q EP, sp_gaps_below ds S Q EP → d_gaps_below EP { nx := fun _ S' => Q .non S', rt := Q } (startD 7 ds) S := Gy.pure_gaps_below
theorem len_nth_gap : ∀ ds S P EP, sp_nth_gap ds S P EP → ds.length = 2 := Gy.len_nth_gap
theorem pure_nth_gap : ∀ ds S Q EP, sp_nth_gap ds S Q EP → d_nth_gap EP { nx := fun _ S' => Q .non S', rt := Q } (startD 6 ds) S := Gy.pure_nth_gap
theorem len__law_bag : ∀ ds S P EP, sp__law_bag ds S P EP → ds.length = 1 := Cb.len__law_bag
theorem pure__law_bag : ∀ ds S Q EP, sp__law_bag ds S Q EP → d__law_bag EP { nx := fun _ S' => Q .non S', rt := Q } (startD 2 ds) S := Cb.pure__law_bag
theorem len__law_take : ∀ ds S P EP, sp__law_take ds S P EP → ds.length = 2 := Cb.len__law_take
theorem pure__law_take : ∀ ds S Q EP, sp__law_take ds S Q EP → d__law_take EP { nx := fun _ S' => Q .non S', rt := Q } (startD 7 ds) S := Cb.pure__law_take
theorem len__law_some : ∀ ds S P EP, sp__law_some ds S P EP → ds.length = 2 := Cc.len__law_some
theorem pure__law_some : ∀ ds S Q EP, sp__law_some ds S Q EP → d__law_some EP { nx := fun _ S' => Q .non S', rt := Q } (startD 2 ds) S := Cc.pure__law_some
theorem len__law_alike : ∀ ds S P EP, sp__law_alike ds S P EP → ds.length = 2 := Cc.len__law_alike
theorem pure__law_alike : ∀ ds S Q EP, sp__law_alike ds S Q EP → d__law_alike EP { nx := fun _ S' => Q .non S', rt := Q } (startD 6 ds) S := Cc.pure__law_alike
theorem len__law_mixed : ∀ ds S P EP, sp__law_mixed ds S P EP → ds.length = 2 := Cc.len__law_mixed
theorem pure__law_mixed : ∀ ds S Q EP, sp__law_mixed ds S Q EP → d__law_mixed EP { nx := fun _ S' => Q .non S', rt := Q } (startD 4 ds) S := Cc.pure__law_mixed
theorem len__law_coinage : ∀ ds S P EP, sp__law_coinage ds S P EP → ds.length = 4 := Gh.len__law_coinage
theorem pure__law_coinage : ∀ ds S Q EP, sp__law_coinage ds S Q EP → d__law_coinage EP { nx := fun _ S' => Q .non S', rt := Q } (startD 7 ds) S := Gh.pure__law_coinage
theorem len__law_paid : ∀ ds S P EP, sp__law_paid ds S P EP → ds.length = 2 := Gy.len__law_paid
theorem pure__law_paid : ∀ ds S Q EP, sp__law_paid ds S Q EP → d__law_paid EP { nx := fun _ S' => Q .non S', rt := Q } (startD 5 ds) S := Gy.pure__law_paid
theorem len_law : ∀ ds S P EP, sp_law ds S P EP → ds.length = 1 := Hr.len_law
theorem pure_law : ∀ ds S Q EP, sp_law ds S Q EP → d_law EP { nx := fun _ S' => Q .non S', rt := Q } (startD 15 ds) S := Hr.pure_law
theorem law_true (ns : List Int) (_ : ns.length ≤ 63) (_ : ∀ z ∈ ns, Builtin.Int.intBits z ≤ 1048576) (S : Sto) : sp_law [.lw (ns.map D.int)] S (fun d _ => d = .bl true) fun _ _ => False := ⟨ns, rfl, fun _ => rfl⟩
end K05
set_option Elab.async false
set_option linter.all false
set_option maxRecDepth 100000
set_option maxHeartbeats 4000000
namespace K05
open PySem PySem.Spec PyProof.Rows RZ DL
open L2 hiding op_inD op_notInD rInD rNotInD
def top (i : Nat) : Stmt := PySem.Challenge.pw_coinready_k05_gaps_of_endless_coins.main.body.getD i (.Pass ⟨0, 0, 0, 0⟩)
abbrev t_unit_of : Stmt := top 9
abbrev t_spread : Stmt := top 10
abbrev t_least_amounts : Stmt := top 11
abbrev t_greatest_gap : Stmt := top 12
abbrev t_gaps_many : Stmt := top 13
abbrev t_is_integer : Stmt := top 7
abbrev t_gaps_below : Stmt := top 14
abbrev t_nth_gap : Stmt := top 15
abbrev t__law_bag : Stmt := top 17
abbrev t__law_take : Stmt := top 18
abbrev t__law_some : Stmt := top 19
abbrev t__law_alike : Stmt := top 21
abbrev t__law_mixed : Stmt := top 20
abbrev t__law_coinage : Stmt := top 22
abbrev t__law_heard : Stmt := top 23
abbrev t__law_paid : Stmt := top 24
abbrev t_law : Stmt := top 25
structure Txt (P : Program) (K : PySem.W.Frag) (mg : Str → Option Value) (base : Heap) : Prop where
  b_abs : mg "abs" = none
  b_bool : mg "bool" = none
  b_enumerate : mg "enumerate" = none
  b_int : mg "int" = none
  b_isinstance : mg "isinstance" = none
  b_len : mg "len" = none
  b_list : mg "list" = none
  b_max : mg "max" = none
  b_min : mg "min" = none
  b_range : mg "range" = none
  b_set : mg "set" = none
  b_sorted : mg "sorted" = none
  b_str : mg "str" = none
  b_sum : mg "sum" = none
  b_tuple : mg "tuple" = none
  b_zip : mg "zip" = none
  f_unit_of : ∃ (f : Addr) (fd : FuncData), mg "unit_of" = some (.ref f) ∧ Fun K "unit_of" "unit_of" t_unit_of f fd
  f_spread : ∃ (f : Addr) (fd : FuncData), mg "spread" = some (.ref f) ∧ Fun K "spread" "spread" t_spread f fd
  f_least_amounts : ∃ (f : Addr) (fd : FuncData), mg "least_amounts" = some (.ref f) ∧ Fun K "least_amounts" "least_amounts" t_least_amounts f fd
  f_greatest_gap : ∃ (f : Addr) (fd : FuncData), mg "greatest_gap" = some (.ref f) ∧ Fun K "greatest_gap" "greatest_gap" t_greatest_gap f fd
  f_gaps_many : ∃ (f : Addr) (fd : FuncData), mg "gaps_many" = some (.ref f) ∧ Fun K "gaps_many" "gaps_many" t_gaps_many f fd
  f_is_integer : ∃ (f : Addr) (fd : FuncData), mg "is_integer" = some (.ref f) ∧ Fun K "is_integer" "is_integer" t_is_integer f fd
  f_gaps_below : ∃ (f : Addr) (fd : FuncData), mg "gaps_below" = some (.ref f) ∧ Fun K "gaps_below" "gaps_below" t_gaps_below f fd
  f_nth_gap : ∃ (f : Addr) (fd : FuncData), mg "nth_gap" = some (.ref f) ∧ Fun K "nth_gap" "nth_gap" t_nth_gap f fd
  f__law_bag : ∃ (f : Addr) (fd : FuncData), mg "_law_bag" = some (.ref f) ∧ Fun K "_law_bag" "_law_bag" t__law_bag f fd
  f__law_take : ∃ (f : Addr) (fd : FuncData), mg "_law_take" = some (.ref f) ∧ Fun K "_law_take" "_law_take" t__law_take f fd
  f__law_some : ∃ (f : Addr) (fd : FuncData), mg "_law_some" = some (.ref f) ∧ Fun K "_law_some" "_law_some" t__law_some f fd
  f__law_alike : ∃ (f : Addr) (fd : FuncData), mg "_law_alike" = some (.ref f) ∧ Fun K "_law_alike" "_law_alike" t__law_alike f fd
  f__law_mixed : ∃ (f : Addr) (fd : FuncData), mg "_law_mixed" = some (.ref f) ∧ Fun K "_law_mixed" "_law_mixed" t__law_mixed f fd
  f__law_coinage : ∃ (f : Addr) (fd : FuncData), mg "_law_coinage" = some (.ref f) ∧ Fun K "_law_coinage" "_law_coinage" t__law_coinage f fd
  f__law_heard : ∃ (f : Addr) (fd : FuncData), mg "_law_heard" = some (.ref f) ∧ Fun K "_law_heard" "_law_heard" t__law_heard f fd
  f__law_paid : ∃ (f : Addr) (fd : FuncData), mg "_law_paid" = some (.ref f) ∧ Fun K "_law_paid" "_law_paid" t__law_paid f fd
  f_law : ∃ (f : Addr) (fd : FuncData), mg "law" = some (.ref f) ∧ Fun K "law" "law" t_law f fd
  x_CoinError : ∃ c, HdOk K mg "CoinError" c
  x_fld : FldOk K mg
  z_Nothing : Err0 K mg "Nothing"
  i_Nothing : ∃ c, IsOk K mg "Nothing" c
  i_Refused : ∃ c, IsOk K mg "Refused" c
  i_TooMany : ∃ c, IsOk K mg "TooMany" c
  lam : lamB K = true
  tb : ∀ p ∈ csK K, LamX.TabB base mg p.1 p.2
  l_law : ∀ {f : Addr} {fd : FuncData}, mg "law" = some (.ref f) → Fun K "law" "law" t_law f fd → ∃ c P, fd.code = .ref c ∧ LamF K "law" f c P
section
variable {P : Program} {w : World} {K : PySem.W.Frag} {mg : Str → Option Value} {base : Heap}
theorem s_unit_of : FnScope ["coinage", "found", "value", "one", "other"] ["coinage"] (defScope t_unit_of) := ⟨rfl, rfl, rfl, by decide +kernel, rfl, by decide +kernel, by decide +kernel⟩
theorem c_unit_of (T : Txt P K mg base) : Callee P w K mg base 1 "unit_of" sp_unit_of := by
  have S := s_unit_of
  obtain ⟨f, fd, hm, F⟩ := T.f_unit_of
  exact callee_of (t := d_unit_of) F hm S (F.binds fun _ _ _ _ _ _ us hl => match us, hl with | [_], _ => rfl) len_unit_of (fun cdv A outer s H E Z EP hr tk =>
  (ss_cons (ss_asg s_int (sg_name (vs := List.range 99) (i := 1) S.nd rfl (.inl rfl) (.inr rfl) (by decide)) rfl rfl rfl)
  (ss_cons (ss_for (L2.passes_of rfl) rfl (si_any (s_ix ix_seq ix_ok (s_var (i := 0) rfl (.inl rfl) rfl rfl) s_int (fun _ _ => rfl))) (sg_name (vs := List.range 99) (i := 2) S.nd rfl (.inl rfl) (.inr rfl) (by decide)) (ss_cons (ss_par (i := 3) (j := 4) rfl S.nd rfl rfl (by decide) rfl rfl (s_cons (s_var (i := 2) rfl (.inl rfl) rfl rfl) (s_cons (s_var (i := 1) rfl (.inl rfl) rfl rfl) s_nil rfl) rfl) rfl rfl)
  (ss_cons (ss_while (L2.passes_of rfl) (s_cmpT op_gt (cmpI_ok (fun i j => decide (j < i))) (s_var (i := 4) rfl (.inl rfl) rfl rfl) s_int rfl) (ss_one (ss_par (i := 3) (j := 4) rfl S.nd rfl rfl (by decide) rfl rfl (s_cons (s_var (i := 4) rfl (.inl rfl) rfl rfl) (s_cons (s_op op_mod mod_ok (s_var (i := 3) rfl (.inl rfl) rfl rfl) (s_var (i := 4) rfl (.inl rfl) rfl rfl)) s_nil rfl) rfl) rfl rfl)))
  (ss_one (ss_asg (s_var (i := 3) rfl (.inl rfl) rfl rfl) (sg_name (vs := List.range 99) (i := 1) S.nd rfl (.inl rfl) (.inr rfl) (by decide)) rfl rfl rfl)))) (fun _ => rfl))
  (ss_one (ss_ret (s_var (i := 1) rfl (.inl rfl) rfl rfl)))))) pure_unit_of
theorem s_spread : FnScope ["size", "steps", "found", "line", "here", "told", "rest", "worth", "weight", "there"] ["size", "steps"] (defScope t_spread) := ⟨rfl, rfl, rfl, by decide +kernel, rfl, by decide +kernel, by decide +kernel⟩
theorem c_spread (T : Txt P K mg base) : Callee P w K mg base 1 "spread" sp_spread := by
  have S := s_spread
  obtain ⟨f, fd, hm, F⟩ := T.f_spread
  exact callee_of (t := d_spread) F hm S (F.binds fun _ _ _ _ _ _ us hl => match us, hl with | [_, _], _ => rfl) len_spread (fun cdv A outer s H E Z EP hr tk =>
  (ss_cons (ss_par (i := 2) (j := 3) rfl S.nd rfl rfl (by decide) rfl rfl (s_cons (s_op op_mulAll mul_ok (s_lst (s_cons s_non s_nil rfl)) (s_var (i := 0) rfl (.inl rfl) rfl rfl)) (s_cons (s_lst (s_cons (s_tup (s_cons (s_tup (s_cons s_int (s_cons s_int s_nil rfl) rfl)) (s_cons s_int s_nil rfl) rfl)) s_nil rfl)) s_nil rfl) rfl) rfl rfl)
  (ss_cons (ss_while (L2.passes_of rfl) (s_cmpT (op_neA hr.u64) ne_ok (s_var (i := 3) rfl (.inl rfl) rfl rfl) (s_lst s_nil) rfl) (ss_cons (ss_asg (s_callB (cr_minA rfl hr.u64) (minA_ok false) (by rfl) T.b_min (by decide +kernel) (s_cons (s_var (i := 3) rfl (.inl rfl) rfl rfl) s_nil rfl) (by decide) rfl rfl rfl) (sg_name (vs := List.range 99) (i := 4) S.nd rfl (.inl rfl) (.inr rfl) (by decide)) rfl rfl rfl)
  (ss_cons (ss_expr (s_bm PySem.F.plainAttrs_list PySem.F.slot_list_remove PySem.F.type_list_remove (mt_gone hr.u65) remove_ok (by decide) (s_var (i := 3) rfl (.inl rfl) rfl rfl) (s_cons (s_var (i := 4) rfl (.inl rfl) rfl rfl) s_nil rfl) rfl rfl rfl rfl rfl) rfl)
  (ss_cons (ss_asg (s_var (i := 4) rfl (.inl rfl) rfl rfl) (sg_tup rfl (sgs_cons (sg_name (vs := List.range 99) (i := 5) S.nd rfl (.inl rfl) (.inr rfl) (by decide)) (sgs_cons (sg_name (vs := List.range 99) (i := 6) S.nd rfl (.inl rfl) (.inr rfl) (by decide)) sgs_nil rfl) rfl) rfl rfl) rfl rfl rfl)
  (ss_one (ss_if (s_cmpT op_isAll (is_ok false) (s_ix ix_seq ix_ok (s_var (i := 2) rfl (.inl rfl) rfl rfl) (s_var (i := 6) rfl (.inl rfl) rfl rfl) (fun _ _ => rfl)) s_non rfl) (ss_cons (ss_asg (s_var (i := 5) rfl (.inl rfl) rfl rfl) (sg_sub (vs := List.range 99) set_list setL_ok (s_var (i := 2) rfl (.inl rfl) rfl rfl) (s_var (i := 6) rfl (.inl rfl) rfl rfl) (fun _ => rfl)) rfl rfl rfl)
  (ss_one (ss_for (L2.passes_of rfl) rfl (si_any (s_var (i := 1) rfl (.inl rfl) rfl rfl)) (sg_tup rfl (sgs_cons (sg_name (vs := List.range 99) (i := 7) S.nd rfl (.inl rfl) (.inr rfl) (by decide)) (sgs_cons (sg_name (vs := List.range 99) (i := 8) S.nd rfl (.inl rfl) (.inr rfl) (by decide)) sgs_nil rfl) rfl) rfl rfl) (ss_cons (ss_asg (s_op op_mod mod_ok (s_op op_addAll add_ok (s_var (i := 6) rfl (.inl rfl) rfl rfl) (s_var (i := 7) rfl (.inl rfl) rfl rfl)) (s_var (i := 0) rfl (.inl rfl) rfl rfl)) (sg_name (vs := List.range 99) (i := 9) S.nd rfl (.inl rfl) (.inr rfl) (by decide)) rfl rfl rfl)
  (ss_one (ss_if (s_cmpT op_isAll (is_ok false) (s_ix ix_seq ix_ok (s_var (i := 2) rfl (.inl rfl) rfl rfl) (s_var (i := 9) rfl (.inl rfl) rfl rfl) (fun _ _ => rfl)) s_non rfl) (ss_one (ss_expr (s_bm PySem.F.plainAttrs_list PySem.F.slot_list_append PySem.F.type_list_append mt_append append_ok (by decide) (s_var (i := 3) rfl (.inl rfl) rfl rfl) (s_cons (s_tup (s_cons (s_tup (s_cons (s_op op_addAll add_ok (s_ix ix_seq ix_ok (s_var (i := 5) rfl (.inl rfl) rfl rfl) s_int (fun _ _ => rfl)) (s_var (i := 8) rfl (.inl rfl) rfl rfl)) (s_cons (s_op op_addAll add_ok (s_ix ix_seq ix_ok (s_var (i := 5) rfl (.inl rfl) rfl rfl) s_int (fun _ _ => rfl)) (s_var (i := 7) rfl (.inl rfl) rfl rfl)) s_nil rfl) rfl)) (s_cons (s_var (i := 9) rfl (.inl rfl) rfl rfl) s_nil rfl) rfl)) s_nil rfl) rfl rfl rfl rfl rfl) rfl)) ss_nil))) (fun _ => rfl)))) ss_nil))))))
  (ss_one (ss_ret (s_var (i := 2) rfl (.inl rfl) rfl rfl)))))) pure_spread
theorem s_least_amounts : FnScope ["coinage", "least", "found", "value", "told"] ["coinage"] (defScope t_least_amounts) := ⟨rfl, rfl, rfl, by decide +kernel, rfl, by decide +kernel, by decide +kernel⟩
theorem c_least_amounts (T : Txt P K mg base) : Callee P w K mg base 2 "least_amounts" sp_least_amounts := by
  have S := s_least_amounts
  obtain ⟨f, fd, hm, F⟩ := T.f_least_amounts
  exact callee_of (t := d_least_amounts) F hm S (F.binds fun _ _ _ _ _ _ us hl => match us, hl with | [_], _ => rfl) len_least_amounts (fun cdv A outer s H E Z EP hr tk =>
  (ss_cons (ss_asg (s_ix ix_seq ix_ok (s_ix ix_seq ix_ok (s_var (i := 0) rfl (.inl rfl) rfl rfl) s_int (fun _ _ => rfl)) s_int (fun _ _ => rfl)) (sg_name (vs := List.range 99) (i := 1) S.nd rfl (.inl rfl) (.inr rfl) (by decide)) rfl rfl rfl)
  (ss_cons (ss_asg (s_fn (c_spread T) (hr.mono (by decide)) tk (by rfl) (s_cons (s_var (i := 1) rfl (.inl rfl) rfl rfl) (s_cons (s_lc (own := [("value", 3)]) rfl S.nd (si_any (s_slice sl_all sl_ok (s_ix ix_seq ix_ok (s_var (i := 0) rfl (.inl rfl) rfl rfl) s_int (fun _ _ => rfl)) (s_part s_int) s_noPart)) (blkOk_by (by first | rfl | kernel_rfl)) (fun _ _ _ _ _ => (sg_name (i := 3) S.nd rfl (.inl rfl) (.inr rfl) (by decide))) (fun _ _ _ _ _ => sts_nil) (fun _ _ _ _ _ => (s_tup (s_cons (s_var (i := 3) rfl (.inl rfl) rfl rfl) (s_cons (s_var (i := 3) rfl (.inl rfl) rfl rfl) s_nil rfl) rfl))) (fun _ => rfl)) s_nil rfl) rfl) rfl rfl rfl) (sg_name (vs := List.range 99) (i := 2) S.nd rfl (.inl rfl) (.inr rfl) (by decide)) rfl rfl rfl)
  (ss_one (ss_ret (s_callTy call_tuple_of tuple1_ok (by rfl) T.b_tuple (by decide +kernel) (s_cons (s_lc (own := [("told", 4)]) rfl S.nd (si_any (s_var (i := 2) rfl (.inl rfl) rfl rfl)) (blkOk_by (by first | rfl | kernel_rfl)) (fun _ _ _ _ _ => (sg_name (i := 4) S.nd rfl (.inl rfl) (.inr rfl) (by decide))) (fun _ _ _ _ _ => sts_nil) (fun _ _ _ _ _ => (s_ifExp (s_cmpT op_isAll (is_ok false) (s_var (i := 4) rfl (.inl rfl) rfl rfl) s_non rfl) s_non (s_ix ix_seq ix_ok (s_var (i := 4) rfl (.inl rfl) rfl rfl) s_int (fun _ _ => rfl)))) (fun _ => rfl)) s_nil rfl) (by decide) rfl rfl rfl)))))) pure_least_amounts
theorem s_greatest_gap : FnScope ["coinage"] ["coinage"] (defScope t_greatest_gap) := ⟨rfl, rfl, rfl, by decide +kernel, rfl, by decide +kernel, by decide +kernel⟩
theorem c_greatest_gap (T : Txt P K mg base) : Callee P w K mg base 3 "greatest_gap" sp_greatest_gap := by
  have S := s_greatest_gap
  obtain ⟨f, fd, hm, F⟩ := T.f_greatest_gap
  exact callee_of (t := d_greatest_gap) F hm S (F.binds fun _ _ _ _ _ _ us hl => match us, hl with | [_], _ => rfl) len_greatest_gap (fun cdv A outer s H E Z EP hr tk =>
  (ss_cons (ss_if (s_cmpT op_gt (cmpI_ok (fun i j => decide (j < i))) (s_fn (c_unit_of T) (hr.mono (by decide)) tk (by rfl) (s_cons (s_var (i := 0) rfl (.inl rfl) rfl rfl) s_nil rfl) rfl rfl rfl) s_int rfl) (ss_one (ss_ret s_non)) ss_nil)
  (ss_one (ss_ret (s_callB (cr_maxA rfl hr.u64) (minA_ok true) (by rfl) T.b_max (by decide +kernel) (s_cons (s_lst (s_cons (s_un un_neg neg_ok s_int) (s_cons (s_op op_sub sub_ok (s_callB (cr_maxA rfl hr.u64) (minA_ok true) (by rfl) T.b_max (by decide +kernel) (s_cons (s_fn (c_least_amounts T) (hr.mono (by decide)) tk (by rfl) (s_cons (s_var (i := 0) rfl (.inl rfl) rfl rfl) s_nil rfl) rfl rfl rfl) s_nil rfl) (by decide) rfl rfl rfl) (s_ix ix_seq ix_ok (s_ix ix_seq ix_ok (s_var (i := 0) rfl (.inl rfl) rfl rfl) s_int (fun _ _ => rfl)) s_int (fun _ _ => rfl))) s_nil rfl) rfl)) s_nil rfl) (by decide) rfl rfl rfl))))) pure_greatest_gap
theorem s_gaps_many : FnScope ["coinage", "one"] ["coinage"] (defScope t_gaps_many) := ⟨rfl, rfl, rfl, by decide +kernel, rfl, by decide +kernel, by decide +kernel⟩
theorem c_gaps_many (T : Txt P K mg base) : Callee P w K mg base 3 "gaps_many" sp_gaps_many := by
  have S := s_gaps_many
  obtain ⟨f, fd, hm, F⟩ := T.f_gaps_many
  exact callee_of (t := d_gaps_many) F hm S (F.binds fun _ _ _ _ _ _ us hl => match us, hl with | [_], _ => rfl) len_gaps_many (fun cdv A outer s H E Z EP hr tk =>
  (ss_cons (ss_if (s_cmpT op_gt (cmpI_ok (fun i j => decide (j < i))) (s_fn (c_unit_of T) (hr.mono (by decide)) tk (by rfl) (s_cons (s_var (i := 0) rfl (.inr (.inl rfl)) rfl rfl) s_nil rfl) rfl rfl rfl) s_int rfl) (ss_one (ss_ret s_non)) ss_nil)
  (ss_one (ss_ret (s_callB (cr_sumK rfl) sum_ok (by rfl) T.b_sum (by decide +kernel) (s_cons (s_lc (own := [("one", 1)]) rfl S.nd (si_any (s_fn (c_least_amounts T) (hr.mono (by decide)) tk (by rfl) (s_cons (s_var (i := 0) rfl (.inr (.inl rfl)) rfl rfl) s_nil rfl) rfl rfl rfl)) (blkOk_by (by first | rfl | kernel_rfl)) (fun _ _ _ _ _ => (sg_name (i := 1) S.nd rfl (.inl rfl) (.inr rfl) (by decide))) (fun _ _ _ _ _ => sts_nil) (fun _ _ _ _ _ => (s_op op_fdivW fdiv_ok (s_var (i := 1) rfl (.inl rfl) rfl rfl) (s_ix ix_seq ix_ok (s_ix ix_seq ix_ok (s_var (i := 0) rfl (.inr (.inl rfl)) rfl rfl) s_int (fun _ _ => rfl)) s_int (fun _ _ => rfl)))) (fun _ => rfl)) s_nil rfl) (by decide) rfl rfl rfl))))) pure_gaps_many
theorem s_is_integer : FnScope ["thing"] ["thing"] (defScope t_is_integer) := ⟨rfl, rfl, rfl, by decide +kernel, rfl, by decide +kernel, by decide +kernel⟩
theorem c_is_integer (T : Txt P K mg base) : Callee P w K mg base 1 "is_integer" sp_is_integer := by
  have S := s_is_integer
  obtain ⟨f, fd, hm, F⟩ := T.f_is_integer
  exact callee_of (t := d_is_integer) F hm S (F.binds fun _ _ _ _ _ _ us hl => match us, hl with | [_], _ => rfl) len_is_integer (fun cdv A outer s H E Z EP hr tk =>
  (ss_one (ss_ret (s_and (s_callB cr_isiA isi_ok (by rfl) T.b_isinstance (by decide +kernel) (s_cons (s_var (i := 0) rfl (.inl rfl) rfl rfl) (s_cons (s_ty (by rfl) T.b_int rfl (by decide) rfl) s_nil rfl) rfl) (by decide) rfl rfl rfl) (s_one (s_not (s_callB cr_isiA isi_ok (by rfl) T.b_isinstance (by decide +kernel) (s_cons (s_var (i := 0) rfl (.inl rfl) rfl rfl) (s_cons (s_ty (by rfl) T.b_bool rfl (by decide) rfl) s_nil rfl) rfl) (by decide) rfl rfl rfl))))))) pure_is_integer
theorem s_gaps_below : FnScope ["coinage", "amount", "least", "found", "rest", "one", "first"] ["coinage", "amount"] (defScope t_gaps_below) := ⟨rfl, rfl, rfl, by decide +kernel, rfl, by decide +kernel, by decide +kernel⟩
theorem c_gaps_below (T : Txt P K mg base) : Callee P w K mg base 3 "gaps_below" sp_gaps_below := by
  have S := s_gaps_below
  obtain ⟨f, fd, hm, F⟩ := T.f_gaps_below
  exact callee_of (t := d_gaps_below) F hm S (F.binds fun _ _ _ _ _ _ us hl => match us, hl with | [_, _], _ => rfl) len_gaps_below (fun cdv A outer s H E Z EP hr tk =>
  (ss_cons (ss_par (i := 2) (j := 3) rfl S.nd rfl rfl (by decide) rfl rfl (s_cons (s_ix ix_seq ix_ok (s_ix ix_seq ix_ok (s_var (i := 0) rfl (.inl rfl) rfl rfl) s_int (fun _ _ => rfl)) s_int (fun _ _ => rfl)) (s_cons s_int s_nil rfl) rfl) rfl rfl)
  (ss_cons (ss_for (L2.passes_of rfl) rfl (si_enum (by rfl) T.b_enumerate (s_cons (s_fn (c_least_amounts T) (hr.mono (by decide)) tk (by rfl) (s_cons (s_var (i := 0) rfl (.inl rfl) rfl rfl) s_nil rfl) rfl rfl rfl) s_nil rfl) rfl) (sg_tup rfl (sgs_cons (sg_name (vs := List.range 99) (i := 4) S.nd rfl (.inl rfl) (.inr rfl) (by decide)) (sgs_cons (sg_name (vs := List.range 99) (i := 5) S.nd rfl (.inl rfl) (.inr rfl) (by decide)) sgs_nil rfl) rfl) rfl rfl) (ss_cons (ss_asg (s_ifExp (s_cmpT op_isAll (is_ok false) (s_var (i := 5) rfl (.inl rfl) rfl rfl) s_non rfl) (s_var (i := 1) rfl (.inl rfl) rfl rfl) (s_callB (call_min2 rfl) min2_ok (by rfl) T.b_min (by decide +kernel) (s_cons (s_var (i := 5) rfl (.inl rfl) rfl rfl) (s_cons (s_var (i := 1) rfl (.inl rfl) rfl rfl) s_nil rfl) rfl) (by decide) rfl rfl rfl)) (sg_name (vs := List.range 99) (i := 6) S.nd rfl (.inl rfl) (.inr rfl) (by decide)) rfl rfl rfl)
  (ss_one (ss_aug (i := 3) S.nd rfl (.inl rfl) (s_ifExp (s_cmpT op_gt (cmpI_ok (fun i j => decide (j < i))) (s_var (i := 6) rfl (.inl rfl) rfl rfl) (s_var (i := 4) rfl (.inl rfl) rfl rfl) rfl) (s_op op_fdivW fdiv_ok (s_op op_sub sub_ok (s_op op_addAll add_ok (s_op op_sub sub_ok (s_var (i := 6) rfl (.inl rfl) rfl rfl) (s_var (i := 4) rfl (.inl rfl) rfl rfl)) (s_var (i := 2) rfl (.inl rfl) rfl rfl)) s_int) (s_var (i := 2) rfl (.inl rfl) rfl rfl)) s_int) ip_add (ipI_ok fun i j => i + j) (.inr rfl)))) (fun _ => rfl))
  (ss_one (ss_ret (s_var (i := 3) rfl (.inl rfl) rfl rfl)))))) pure_gaps_below
theorem s_nth_gap : FnScope ["coinage", "number", "many", "low", "high", "middle"] ["coinage", "number"] (defScope t_nth_gap) := ⟨rfl, rfl, rfl, by decide +kernel, rfl, by decide +kernel, by decide +kernel⟩
theorem c_nth_gap (T : Txt P K mg base) : Callee P w K mg base 4 "nth_gap" sp_nth_gap := by
  have S := s_nth_gap
  obtain ⟨f, fd, hm, F⟩ := T.f_nth_gap
  exact callee_of (t := d_nth_gap) F hm S (F.binds fun _ _ _ _ _ _ us hl => match us, hl with | [_, _], _ => rfl) len_nth_gap (fun cdv A outer s H E Z EP hr tk =>
  (ss_cons (ss_asg (s_fn (c_gaps_many T) (hr.mono (by decide)) tk (by rfl) (s_cons (s_var (i := 0) rfl (.inl rfl) rfl rfl) s_nil rfl) rfl rfl rfl) (sg_name (vs := List.range 99) (i := 2) S.nd rfl (.inl rfl) (.inr rfl) (by decide)) rfl rfl rfl)
  (ss_cons (ss_if (s_wt (s_orT (s_notT (s_truth (s_fn (c_is_integer T) (hr.mono (by decide)) tk (by rfl) (s_cons (s_var (i := 1) rfl (.inl rfl) rfl rfl) s_nil rfl) rfl rfl rfl) (fun _ => rfl))) (s_orT (s_cmpT op_lt (cmpI_ok (fun i j => decide (i < j))) (s_var (i := 1) rfl (.inl rfl) rfl rfl) s_int rfl) (s_or1 (s_wt (s_andT (s_cmpT op_isNotAll (is_ok true) (s_var (i := 2) rfl (.inl rfl) rfl rfl) s_non rfl) (s_and1 (s_cmpT op_ge (cmpI_ok (fun i j => decide (j ≤ i))) (s_var (i := 1) rfl (.inl rfl) rfl rfl) (s_var (i := 2) rfl (.inl rfl) rfl rfl) rfl)))))))) (ss_one (ss_rz0 T.z_Nothing rfl tk (by rfl) rfl)) ss_nil)
  (ss_cons (ss_asg (s_tup (s_cons s_int (s_cons s_int s_nil rfl) rfl)) (sg_tup rfl (sgs_cons (sg_name (vs := List.range 99) (i := 3) S.nd rfl (.inl rfl) (.inr rfl) (by decide)) (sgs_cons (sg_name (vs := List.range 99) (i := 4) S.nd rfl (.inl rfl) (.inr rfl) (by decide)) sgs_nil rfl) rfl) rfl rfl) rfl rfl rfl)
  (ss_cons (ss_while (L2.passes_of rfl) (s_cmpT op_le (cmpI_ok (fun i j => decide (i ≤ j))) (s_fn (c_gaps_below T) (hr.mono (by decide)) tk (by rfl) (s_cons (s_var (i := 0) rfl (.inl rfl) rfl rfl) (s_cons (s_var (i := 4) rfl (.inl rfl) rfl rfl) s_nil rfl) rfl) rfl rfl rfl) (s_var (i := 1) rfl (.inl rfl) rfl rfl) rfl) (ss_one (ss_asg (s_op op_mulAll mul_ok s_int (s_var (i := 4) rfl (.inl rfl) rfl rfl)) (sg_name (vs := List.range 99) (i := 4) S.nd rfl (.inl rfl) (.inr rfl) (by decide)) rfl rfl rfl)))
  (ss_cons (ss_while (L2.passes_of rfl) (s_cmpT op_lt (cmpI_ok (fun i j => decide (i < j))) (s_op op_addAll add_ok (s_var (i := 3) rfl (.inl rfl) rfl rfl) s_int) (s_var (i := 4) rfl (.inl rfl) rfl rfl) rfl) (ss_cons (ss_asg (s_op op_fdivW fdiv_ok (s_op op_addAll add_ok (s_var (i := 3) rfl (.inl rfl) rfl rfl) (s_var (i := 4) rfl (.inl rfl) rfl rfl)) s_int) (sg_name (vs := List.range 99) (i := 5) S.nd rfl (.inl rfl) (.inr rfl) (by decide)) rfl rfl rfl)
  (ss_one (ss_if (s_cmpT op_le (cmpI_ok (fun i j => decide (i ≤ j))) (s_fn (c_gaps_below T) (hr.mono (by decide)) tk (by rfl) (s_cons (s_var (i := 0) rfl (.inl rfl) rfl rfl) (s_cons (s_var (i := 5) rfl (.inl rfl) rfl rfl) s_nil rfl) rfl) rfl rfl rfl) (s_var (i := 1) rfl (.inl rfl) rfl rfl) rfl) (ss_one (ss_asg (s_var (i := 5) rfl (.inl rfl) rfl rfl) (sg_name (vs := List.range 99) (i := 3) S.nd rfl (.inl rfl) (.inr rfl) (by decide)) rfl rfl rfl)) (ss_one (ss_asg (s_var (i := 5) rfl (.inl rfl) rfl rfl) (sg_name (vs := List.range 99) (i := 4) S.nd rfl (.inl rfl) (.inr rfl) (by decide)) rfl rfl rfl))))))
  (ss_one (ss_ret (s_var (i := 3) rfl (.inl rfl) rfl rfl))))))))) pure_nth_gap
theorem s__law_bag : FnScope ["script", "cell"] ["script"] (defScope t__law_bag) := ⟨rfl, rfl, rfl, by decide +kernel, rfl, by decide +kernel, by decide +kernel⟩
theorem c__law_bag (T : Txt P K mg base) : Callee P w K mg base 1 "_law_bag" sp__law_bag := by
  have S := s__law_bag
  obtain ⟨f, fd, hm, F⟩ := T.f__law_bag
  exact callee_of (t := d__law_bag) F hm S (F.binds fun _ _ _ _ _ _ us hl => match us, hl with | [_], _ => rfl) len__law_bag (fun cdv A outer s H E Z EP hr tk =>
  (ss_one (ss_ret (s_lst (s_cons s_int (s_cons s_int (s_cons s_int (s_cons (s_lc (own := [("cell", 1)]) rfl S.nd (si_any (s_slice sl_all sl_ok (s_var (i := 0) rfl (.inl rfl) rfl rfl) s_noPart (s_part s_int))) (blkOk_by (by first | rfl | kernel_rfl)) (fun _ _ _ _ _ => (sg_name (i := 1) S.nd rfl (.inl rfl) (.inr rfl) (by decide))) (fun _ _ _ _ _ => sts_nil) (fun _ _ _ _ _ => (s_callB call_abs abs_ok (by rfl) T.b_abs (by decide +kernel) (s_cons (s_var (i := 1) rfl (.inl rfl) rfl rfl) s_nil rfl) (by decide) rfl rfl rfl)) (fun _ => rfl)) s_nil rfl) rfl) rfl) rfl))))) pure__law_bag
theorem s__law_take : FnScope ["bag", "many", "cell", "stirred", "value", "begin", "second"] ["bag", "many"] (defScope t__law_take) := ⟨rfl, rfl, rfl, by decide +kernel, rfl, by decide +kernel, by decide +kernel⟩
theorem c__law_take (T : Txt P K mg base) : Callee P w K mg base 1 "_law_take" sp__law_take := by
  have S := s__law_take
  obtain ⟨f, fd, hm, F⟩ := T.f__law_take
  exact callee_of (t := d__law_take) F hm S (F.binds fun _ _ _ _ _ _ us hl => match us, hl with | [_, _], _ => rfl) len__law_take (fun cdv A outer s H E Z EP hr tk =>
  (ss_cons (ss_if (s_cmpT (op_eqA hr.u64) eq_ok (s_ix ix_seq ix_ok (s_var (i := 0) rfl (.inl rfl) rfl rfl) s_int (fun _ _ => rfl)) s_int rfl) (ss_cons (ss_asg (s_ix ix_seq ix_ok (s_op op_addAll add_ok (s_slice sl_all sl_ok (s_ix ix_seq ix_ok (s_var (i := 0) rfl (.inl rfl) rfl rfl) s_int (fun _ _ => rfl)) (s_part (s_ix ix_seq ix_ok (s_var (i := 0) rfl (.inl rfl) rfl rfl) s_int (fun _ _ => rfl))) s_noPart) (s_lst (s_cons s_int s_nil rfl))) s_int (fun _ _ => rfl)) (sg_name (vs := List.range 99) (i := 2) S.nd rfl (.inl rfl) (.inr rfl) (by decide)) rfl rfl rfl)
  (ss_cons (ss_augS (s_var (i := 0) rfl (.inl rfl) rfl rfl) s_int pget_list s_int ip_add set_list ixL_ok (ipI_ok fun i j => i + j) setL_ok (fun _ _ _ => rfl))
  (ss_cons (ss_if (s_cmpT op_ge (cmpI_ok (fun i j => decide (j ≤ i))) (s_var (i := 2) rfl (.inl rfl) rfl rfl) (s_op op_pow pow_ok s_int s_int) rfl) (ss_one (ss_asg (s_var (i := 2) rfl (.inl rfl) rfl rfl) (sg_sub (vs := List.range 99) set_list setL_ok (s_var (i := 0) rfl (.inl rfl) rfl rfl) s_int (fun _ => rfl)) rfl rfl rfl)) ss_nil)
  (ss_cons (ss_asg (s_op op_addAll add_ok (s_op op_addAll add_ok (s_op op_mulAll mul_ok (s_ix ix_seq ix_ok (s_var (i := 0) rfl (.inl rfl) rfl rfl) s_int (fun _ _ => rfl)) s_int) (s_op op_mod mod_ok (s_callTy call_int1 int_ok (by rfl) T.b_int (by decide +kernel) (s_cons (s_var (i := 2) rfl (.inl rfl) rfl rfl) s_nil rfl) (by decide) rfl rfl rfl) s_int)) (s_op op_mulAll mul_ok s_int (s_ix ix_seq ix_ok (s_var (i := 0) rfl (.inl rfl) rfl rfl) s_int (fun _ _ => rfl)))) (sg_name (vs := List.range 99) (i := 3) S.nd rfl (.inl rfl) (.inr rfl) (by decide)) rfl rfl rfl)
  (ss_one (ss_asg (s_op op_mod mod_ok (s_callTy call_int1 int_ok (by rfl) T.b_int (by decide +kernel) (s_cons (s_var (i := 3) rfl (.inl rfl) rfl rfl) s_nil rfl) (by decide) rfl rfl rfl) s_int) (sg_sub (vs := List.range 99) set_list setL_ok (s_var (i := 0) rfl (.inl rfl) rfl rfl) s_int (fun _ => rfl)) rfl rfl rfl)))))) ss_nil)
  (ss_cons (ss_if (s_cmpT op_gt (cmpI_ok (fun i j => decide (j < i))) (s_ix ix_seq ix_ok (s_var (i := 0) rfl (.inl rfl) rfl rfl) s_int (fun _ _ => rfl)) s_int rfl) (ss_cons (ss_asg (s_op op_mod mod_ok (s_callTy call_int1 int_ok (by rfl) T.b_int (by decide +kernel) (s_cons (s_ix ix_seq ix_ok (s_var (i := 0) rfl (.inl rfl) rfl rfl) s_int (fun _ _ => rfl)) s_nil rfl) (by decide) rfl rfl rfl) (s_var (i := 1) rfl (.inl rfl) rfl rfl)) (sg_name (vs := List.range 99) (i := 4) S.nd rfl (.inl rfl) (.inr rfl) (by decide)) rfl rfl rfl)
  (ss_cons (ss_asg (s_op op_fdivW fdiv_ok (s_callTy call_int1 int_ok (by rfl) T.b_int (by decide +kernel) (s_cons (s_ix ix_seq ix_ok (s_var (i := 0) rfl (.inl rfl) rfl rfl) s_int (fun _ _ => rfl)) s_nil rfl) (by decide) rfl rfl rfl) (s_var (i := 1) rfl (.inl rfl) rfl rfl)) (sg_sub (vs := List.range 99) set_list setL_ok (s_var (i := 0) rfl (.inl rfl) rfl rfl) s_int (fun _ => rfl)) rfl rfl rfl)
  (ss_one (ss_ret (s_var (i := 4) rfl (.inl rfl) rfl rfl))))) ss_nil)
  (ss_cons (ss_asg (s_op op_mod mod_ok (s_callTy call_int1 int_ok (by rfl) T.b_int (by decide +kernel) (s_cons (s_op op_mulAll mul_ok (s_op op_addAll add_ok (s_ix ix_seq ix_ok (s_var (i := 0) rfl (.inl rfl) rfl rfl) s_int (fun _ _ => rfl)) s_int) s_int) s_nil rfl) (by decide) rfl rfl rfl) s_int) (sg_name (vs := List.range 99) (i := 5) S.nd rfl (.inl rfl) (.inr rfl) (by decide)) rfl rfl rfl)
  (ss_cons (ss_asg (s_op op_mod mod_ok (s_callTy call_int1 int_ok (by rfl) T.b_int (by decide +kernel) (s_cons (s_op op_mulAll mul_ok (s_op op_mod mod_ok (s_callTy call_int1 int_ok (by rfl) T.b_int (by decide +kernel) (s_cons (s_op op_mulAll mul_ok (s_var (i := 5) rfl (.inl rfl) rfl rfl) (s_var (i := 5) rfl (.inl rfl) rfl rfl)) s_nil rfl) (by decide) rfl rfl rfl) s_int) s_int) s_nil rfl) (by decide) rfl rfl rfl) s_int) (sg_name (vs := List.range 99) (i := 6) S.nd rfl (.inl rfl) (.inr rfl) (by decide)) rfl rfl rfl)
  (ss_one (ss_ret (s_op op_mod mod_ok (s_callTy call_int1 int_ok (by rfl) T.b_int (by decide +kernel) (s_cons (s_op op_fdivW fdiv_ok (s_var (i := 6) rfl (.inl rfl) rfl rfl) s_int) s_nil rfl) (by decide) rfl rfl rfl) (s_var (i := 1) rfl (.inl rfl) rfl rfl))))))))) pure__law_take
theorem s__law_some : FnScope ["bag", "things"] ["bag", "things"] (defScope t__law_some) := ⟨rfl, rfl, rfl, by decide +kernel, rfl, by decide +kernel, by decide +kernel⟩
theorem c__law_some (T : Txt P K mg base) : Callee P w K mg base 2 "_law_some" sp__law_some := by
  have S := s__law_some
  obtain ⟨f, fd, hm, F⟩ := T.f__law_some
  exact callee_of (t := d__law_some) F hm S (F.binds fun _ _ _ _ _ _ us hl => match us, hl with | [_, _], _ => rfl) len__law_some (fun cdv A outer s H E Z EP hr tk =>
  (ss_one (ss_ret (s_ix ix_seq ix_ok (s_var (i := 1) rfl (.inl rfl) rfl rfl) (s_fn (c__law_take T) (hr.mono (by decide)) tk (by rfl) (s_cons (s_var (i := 0) rfl (.inl rfl) rfl rfl) (s_cons (s_callB cr_len len_ok (by rfl) T.b_len (by decide +kernel) (s_cons (s_var (i := 1) rfl (.inl rfl) rfl rfl) s_nil rfl) (by decide) rfl rfl rfl) s_nil rfl) rfl) rfl rfl rfl) (fun _ _ => rfl))))) pure__law_some
theorem s__law_alike : FnScope ["found", "due", "pairs", "at", "one", "other"] ["found", "due"] (defScope t__law_alike) := ⟨rfl, rfl, rfl, by decide +kernel, rfl, by decide +kernel, by decide +kernel⟩
theorem c__law_alike (T : Txt P K mg base) : Callee P w K mg base 1 "_law_alike" sp__law_alike := by
  have S := s__law_alike
  obtain ⟨f, fd, hm, F⟩ := T.f__law_alike
  exact callee_of (t := d__law_alike) F hm S (F.binds fun _ _ _ _ _ _ us hl => match us, hl with | [_, _], _ => rfl) len__law_alike (fun cdv A outer s H E Z EP hr tk =>
  (ss_cons (ss_par (i := 2) (j := 3) rfl S.nd rfl rfl (by decide) rfl rfl (s_cons (s_lst (s_cons (s_tup (s_cons (s_var (i := 0) rfl (.inl rfl) rfl rfl) (s_cons (s_var (i := 1) rfl (.inl rfl) rfl rfl) s_nil rfl) rfl)) s_nil rfl)) (s_cons s_int s_nil rfl) rfl) rfl rfl)
  (ss_cons (ss_while (L2.passes_of rfl) (s_cmpT op_lt (cmpI_ok (fun i j => decide (i < j))) (s_var (i := 3) rfl (.inl rfl) rfl rfl) (s_callB cr_len len_ok (by rfl) T.b_len (by decide +kernel) (s_cons (s_var (i := 2) rfl (.inl rfl) rfl rfl) s_nil rfl) (by decide) rfl rfl rfl) rfl) (ss_cons (ss_asg (s_ix ix_seq ix_ok (s_var (i := 2) rfl (.inl rfl) rfl rfl) (s_var (i := 3) rfl (.inl rfl) rfl rfl) (fun _ _ => rfl)) (sg_tup rfl (sgs_cons (sg_name (vs := List.range 99) (i := 4) S.nd rfl (.inl rfl) (.inr rfl) (by decide)) (sgs_cons (sg_name (vs := List.range 99) (i := 5) S.nd rfl (.inl rfl) (.inr rfl) (by decide)) sgs_nil rfl) rfl) rfl rfl) rfl rfl rfl)
  (ss_cons (ss_aug (i := 3) S.nd rfl (.inl rfl) s_int ip_add (ipI_ok fun i j => i + j) (.inr rfl))
  (ss_cons (ss_if (s_wt (s_orT (s_cmpT (op_neA hr.u64) ne_ok (s_callB cr_isiA isi_ok (by rfl) T.b_isinstance (by decide +kernel) (s_cons (s_var (i := 4) rfl (.inl rfl) rfl rfl) (s_cons (s_ty (by rfl) T.b_bool rfl (by decide) rfl) s_nil rfl) rfl) (by decide) rfl rfl rfl) (s_callB cr_isiA isi_ok (by rfl) T.b_isinstance (by decide +kernel) (s_cons (s_var (i := 5) rfl (.inl rfl) rfl rfl) (s_cons (s_ty (by rfl) T.b_bool rfl (by decide) rfl) s_nil rfl) rfl) (by decide) rfl rfl rfl) rfl) (s_or1 (s_cmpT (op_neA hr.u64) ne_ok (s_callB cr_isiA isi_ok (by rfl) T.b_isinstance (by decide +kernel) (s_cons (s_var (i := 4) rfl (.inl rfl) rfl rfl) (s_cons (s_ty (by rfl) T.b_str rfl (by decide) rfl) s_nil rfl) rfl) (by decide) rfl rfl rfl) (s_callB cr_isiA isi_ok (by rfl) T.b_isinstance (by decide +kernel) (s_cons (s_var (i := 5) rfl (.inl rfl) rfl rfl) (s_cons (s_ty (by rfl) T.b_str rfl (by decide) rfl) s_nil rfl) rfl) (by decide) rfl rfl rfl) rfl)))) (ss_one (ss_ret s_bl)) ss_nil)
  (ss_cons (ss_if (s_cmpT (op_neA hr.u64) ne_ok (s_callB cr_isiA isi_ok (by rfl) T.b_isinstance (by decide +kernel) (s_cons (s_var (i := 4) rfl (.inl rfl) rfl rfl) (s_cons (s_tup (s_cons (s_ty (by rfl) T.b_tuple rfl (by decide) rfl) (s_cons (s_ty (by rfl) T.b_list rfl (by decide) rfl) s_nil rfl) rfl)) s_nil rfl) rfl) (by decide) rfl rfl rfl) (s_callB cr_isiA isi_ok (by rfl) T.b_isinstance (by decide +kernel) (s_cons (s_var (i := 5) rfl (.inl rfl) rfl rfl) (s_cons (s_tup (s_cons (s_ty (by rfl) T.b_tuple rfl (by decide) rfl) (s_cons (s_ty (by rfl) T.b_list rfl (by decide) rfl) s_nil rfl) rfl)) s_nil rfl) rfl) (by decide) rfl rfl rfl) rfl) (ss_one (ss_ret s_bl)) ss_nil)
  (ss_one (ss_if (s_truth (s_callB cr_isiA isi_ok (by rfl) T.b_isinstance (by decide +kernel) (s_cons (s_var (i := 4) rfl (.inl rfl) rfl rfl) (s_cons (s_tup (s_cons (s_ty (by rfl) T.b_tuple rfl (by decide) rfl) (s_cons (s_ty (by rfl) T.b_list rfl (by decide) rfl) s_nil rfl) rfl)) s_nil rfl) rfl) (by decide) rfl rfl rfl) (fun _ => rfl)) (ss_cons (ss_if (s_wt (s_orT (s_cmpT (op_neA hr.u64) ne_ok (s_callB cr_isiA isi_ok (by rfl) T.b_isinstance (by decide +kernel) (s_cons (s_var (i := 4) rfl (.inl rfl) rfl rfl) (s_cons (s_ty (by rfl) T.b_tuple rfl (by decide) rfl) s_nil rfl) rfl) (by decide) rfl rfl rfl) (s_callB cr_isiA isi_ok (by rfl) T.b_isinstance (by decide +kernel) (s_cons (s_var (i := 5) rfl (.inl rfl) rfl rfl) (s_cons (s_ty (by rfl) T.b_tuple rfl (by decide) rfl) s_nil rfl) rfl) (by decide) rfl rfl rfl) rfl) (s_or1 (s_cmpT (op_neA hr.u64) ne_ok (s_callB cr_len len_ok (by rfl) T.b_len (by decide +kernel) (s_cons (s_var (i := 4) rfl (.inl rfl) rfl rfl) s_nil rfl) (by decide) rfl rfl rfl) (s_callB cr_len len_ok (by rfl) T.b_len (by decide +kernel) (s_cons (s_var (i := 5) rfl (.inl rfl) rfl rfl) s_nil rfl) (by decide) rfl rfl rfl) rfl)))) (ss_one (ss_ret s_bl)) ss_nil)
  (ss_one (ss_expr (s_bm PySem.F.plainAttrs_list PySem.F.slot_list_extend PySem.F.type_list_extend mt_extend extend_ok (by decide) (s_var (i := 2) rfl (.inl rfl) rfl rfl) (s_cons (s_lzip (by rfl) T.b_list rfl (by rfl) T.b_zip (s_cons (s_var (i := 4) rfl (.inl rfl) rfl rfl) (s_cons (s_var (i := 5) rfl (.inl rfl) rfl rfl) s_nil rfl) rfl) rfl rfl rfl) s_nil rfl) rfl rfl rfl rfl rfl) rfl))) (ss_one (ss_if (s_cmpT (op_neA hr.u64) ne_ok (s_var (i := 4) rfl (.inl rfl) rfl rfl) (s_var (i := 5) rfl (.inl rfl) rfl rfl) rfl) (ss_one (ss_ret s_bl)) ss_nil)))))))))
  (ss_one (ss_ret s_bl))))) pure__law_alike
theorem s__law_mixed : FnScope ["bag", "things", "left", "found"] ["bag", "things"] (defScope t__law_mixed) := ⟨rfl, rfl, rfl, by decide +kernel, rfl, by decide +kernel, by decide +kernel⟩
theorem c__law_mixed (T : Txt P K mg base) : Callee P w K mg base 2 "_law_mixed" sp__law_mixed := by
  have S := s__law_mixed
  obtain ⟨f, fd, hm, F⟩ := T.f__law_mixed
  exact callee_of (t := d__law_mixed) F hm S (F.binds fun _ _ _ _ _ _ us hl => match us, hl with | [_, _], _ => rfl) len__law_mixed (fun cdv A outer s H E Z EP hr tk =>
  (ss_cons (ss_par (i := 2) (j := 3) rfl S.nd rfl rfl (by decide) rfl rfl (s_cons (s_callTy call_list_of list1_ok (by rfl) T.b_list (by decide +kernel) (s_cons (s_var (i := 1) rfl (.inl rfl) rfl rfl) s_nil rfl) (by decide) rfl rfl rfl) (s_cons (s_lst s_nil) s_nil rfl) rfl) rfl rfl)
  (ss_cons (ss_while (L2.passes_of rfl) (s_cmpT (op_neA hr.u64) ne_ok (s_var (i := 2) rfl (.inl rfl) rfl rfl) (s_lst s_nil) rfl) (ss_one (ss_expr (s_bm PySem.F.plainAttrs_list PySem.F.slot_list_append PySem.F.type_list_append mt_append append_ok (by decide) (s_var (i := 3) rfl (.inl rfl) rfl rfl) (s_cons (s_bm PySem.F.plainAttrs_list PySem.F.slot_list_pop PySem.F.type_list_pop mt_popAt popAt_ok (by decide) (s_var (i := 2) rfl (.inl rfl) rfl rfl) (s_cons (s_fn (c__law_take T) (hr.mono (by decide)) tk (by rfl) (s_cons (s_var (i := 0) rfl (.inl rfl) rfl rfl) (s_cons (s_callB cr_len len_ok (by rfl) T.b_len (by decide +kernel) (s_cons (s_var (i := 2) rfl (.inl rfl) rfl rfl) s_nil rfl) (by decide) rfl rfl rfl) s_nil rfl) rfl) rfl rfl rfl) s_nil rfl) rfl rfl rfl rfl rfl) s_nil rfl) rfl rfl rfl rfl rfl) rfl)))
  (ss_one (ss_ret (s_var (i := 3) rfl (.inl rfl) rfl rfl)))))) pure__law_mixed
theorem s__law_coinage : FnScope ["bag", "kinds", "greatest", "cap", "usual", "values", "value"] ["bag", "kinds", "greatest", "cap"] (defScope t__law_coinage) := ⟨rfl, rfl, rfl, by decide +kernel, rfl, by decide +kernel, by decide +kernel⟩
theorem c__law_coinage (T : Txt P K mg base) : Callee P w K mg base 3 "_law_coinage" sp__law_coinage := by
  have S := s__law_coinage
  obtain ⟨f, fd, hm, F⟩ := T.f__law_coinage
  exact callee_of (t := d__law_coinage) F hm S (F.binds fun _ _ _ _ _ _ us hl => match us, hl with | [_, _, _, _], _ => rfl) len__law_coinage (fun cdv A outer s H E Z EP hr tk =>
  (ss_cons (ss_asg (s_fn (c__law_some T) (hr.mono (by decide)) tk (by rfl) (s_cons (s_var (i := 0) rfl (.inr (.inl rfl)) rfl rfl) (s_cons (s_lst (s_cons (s_lst (s_cons s_int (s_cons s_int (s_cons s_int (s_cons s_int s_nil rfl) rfl) rfl) rfl)) (s_cons (s_lst (s_cons s_int (s_cons s_int (s_cons s_int (s_cons s_int s_nil rfl) rfl) rfl) rfl)) (s_cons (s_lst (s_cons s_int (s_cons s_int (s_cons s_int s_nil rfl) rfl) rfl)) (s_cons (s_lst (s_cons s_int (s_cons s_int (s_cons s_int s_nil rfl) rfl) rfl)) (s_cons (s_lst (s_cons s_int (s_cons s_int (s_cons s_int (s_cons s_int s_nil rfl) rfl) rfl) rfl)) (s_cons (s_lst (s_cons s_int (s_cons s_int (s_cons s_int (s_cons s_int s_nil rfl) rfl) rfl) rfl)) s_nil rfl) rfl) rfl) rfl) rfl) rfl)) s_nil rfl) rfl) rfl rfl rfl) (sg_name (vs := List.range 99) (i := 4) S.nd rfl (.inl rfl) (.inr rfl) (by decide)) rfl rfl rfl)
  (ss_cons (ss_asg (s_callB (cr_sortA rfl hr.u64) sortA_ok (by rfl) T.b_sorted (by decide +kernel) (s_cons (s_slice sl_all sl_ok (s_var (i := 4) rfl (.inl rfl) rfl rfl) s_noPart (s_part (s_var (i := 1) rfl (.inl rfl) rfl rfl))) s_nil rfl) (by decide) rfl rfl rfl) (sg_name (vs := List.range 99) (i := 5) S.nd rfl (.inl rfl) (.inr rfl) (by decide)) rfl rfl rfl)
  (ss_cons (ss_if (s_wt (s_orT (s_cmpT (op_eqA hr.u64) eq_ok (s_fn (c__law_take T) (hr.mono (by decide)) tk (by rfl) (s_cons (s_var (i := 0) rfl (.inr (.inl rfl)) rfl rfl) (s_cons s_int s_nil rfl) rfl) rfl rfl rfl) s_int rfl) (s_or1 (s_cmpT op_lt (cmpI_ok (fun i j => decide (i < j))) (s_callB cr_lenA lenA_ok (by rfl) T.b_len (by decide +kernel) (s_cons (s_var (i := 5) rfl (.inl rfl) rfl rfl) s_nil rfl) (by decide) rfl rfl rfl) (s_var (i := 1) rfl (.inl rfl) rfl rfl) rfl)))) (ss_one (ss_asg (s_callB (cr_sortA rfl hr.u64) sortA_ok (by rfl) T.b_sorted (by decide +kernel) (s_cons (s_slice sl_all sl_ok (s_fn (c__law_mixed T) (hr.mono (by decide)) tk (by rfl) (s_cons (s_var (i := 0) rfl (.inr (.inl rfl)) rfl rfl) (s_cons (s_lrng2 (by rfl) T.b_list rfl (by rfl) T.b_range s_int (s_op op_addAll add_ok (s_var (i := 2) rfl (.inl rfl) rfl rfl) s_int) rfl rfl rfl rfl) s_nil rfl) rfl) rfl rfl rfl) s_noPart (s_part (s_var (i := 1) rfl (.inl rfl) rfl rfl))) s_nil rfl) (by decide) rfl rfl rfl) (sg_name (vs := List.range 99) (i := 5) S.nd rfl (.inl rfl) (.inr rfl) (by decide)) rfl rfl rfl)) ss_nil)
  (ss_one (ss_ret (s_tup (s_cons (s_callTy call_tuple_of tuple1_ok (by rfl) T.b_tuple (by decide +kernel) (s_cons (s_var (i := 5) rfl (.inl rfl) rfl rfl) s_nil rfl) (by decide) rfl rfl rfl) (s_cons (s_callTy call_tuple_of tuple1_ok (by rfl) T.b_tuple (by decide +kernel) (s_cons (s_lc (own := [("value", 6)]) rfl S.nd (si_any (s_var (i := 5) rfl (.inl rfl) rfl rfl)) (blkOk_by (by first | rfl | kernel_rfl)) (fun _ _ _ _ _ => (sg_name (i := 6) S.nd rfl (.inl rfl) (.inr rfl) (by decide))) (fun _ _ _ _ _ => sts_nil) (fun _ _ _ _ _ => (s_fn (c__law_take T) (hr.mono (by decide)) takesNo (by rfl) (s_cons (s_var (i := 0) rfl (.inr (.inl rfl)) rfl rfl) (s_cons (s_op op_addAll add_ok (s_var (i := 3) rfl (.inr (.inl rfl)) rfl rfl) s_int) s_nil rfl) rfl) rfl rfl rfl)) (fun _ => rfl)) s_nil rfl) (by decide) rfl rfl rfl) s_nil rfl) rfl)))))))) pure__law_coinage
theorem s__law_heard : FnScope ["act", "error"] ["act"] (defScope t__law_heard) := ⟨rfl, rfl, rfl, by decide +kernel, rfl, by decide +kernel, by decide +kernel⟩
theorem g__law_heard {k : Nat} (hk : 3 ≤ k) (T : Txt P K mg base) {g : Addr} {cdv : Value} {A : Around} {outer : List Env} {s : Shared} {H : Hp} {E : XK} {Z : Zb} {EP : Exc → Sto → Prop} {mk : EXn → DE} (hr : RoomG (k + 1) (A.deeper (envOfC "_law_heard" (defScope t__law_heard) s.heap.objs.size g cdv))) (tk : L2N.Takes (cxD P w K mg base ["act", "error"] "_law_heard" t__law_heard g cdv A outer s H E) (upW K mg Z fun e _ S' => EP e S')) (hmk : MkOk (cxD P w K mg base ["act", "error"] "_law_heard" t__law_heard g cdv A outer s H E) Z "act" mk) :
    SSs (cxD P w K mg base ["act", "error"] "_law_heard" t__law_heard g cdv A outer s H E) Z (defBody t__law_heard) (d__law_heard mk EP) := by
  have S := s__law_heard
  exact (ss_one (ss_try_as (i := 1) (tb := fun EX => (dRet (dTup (dCons (dC (.str "told")) (dCons (mk EX) dNil))))) (ts := fun e a => (dSeq (dIfS (dTru (dIsE 1 a e "Refused")) (dRet (dTup (dCons (dC (.str "refused")) (dCons (dXf 1 a e "why") dNil)))) dNext)
  (dSeq (dIfS (dTru (dIsE 1 a e "TooMany")) (dRet (dTup (dCons (dC (.str "many")) (dCons (dXf 1 a e "what") (dCons (dXf 1 a e "limit") dNil))))) dNext)
  (dRet (dIf (dTru (dIsE 1 a e "Nothing")) (dTup (dCons (dC (.str "nothing")) dNil)) (dTup (dCons (dC (.str "other")) dNil))))))) rfl rfl S.nd rfl rfl (by rfl) rfl (Exists.choose_spec T.x_CoinError) tk (fun EX Z2 pn xe tr2 tk2 po2 => (ss_one (ss_ret (s_tup (s_cons s_str (s_cons (hmk EX _ _ _ tr2 tk2 _ _) s_nil rfl) rfl))))) (fun a oe cls d pn e Z2 su => (ss_cons (ss_if (s_truth (se_isx su (Exists.choose_spec T.i_Refused) (by rfl) T.b_isinstance (by rfl) rfl (.inl rfl) rfl rfl rfl) (fun _ => rfl)) (ss_one (ss_ret (s_tup (s_cons s_str (s_cons (se_xf su T.x_fld rfl (.inl rfl) rfl rfl rfl) s_nil rfl) rfl)))) ss_nil)
  (ss_cons (ss_if (s_truth (se_isx su (Exists.choose_spec T.i_TooMany) (by rfl) T.b_isinstance (by rfl) rfl (.inl rfl) rfl rfl rfl) (fun _ => rfl)) (ss_one (ss_ret (s_tup (s_cons s_str (s_cons (se_xf su T.x_fld rfl (.inl rfl) rfl rfl rfl) (s_cons (se_xf su T.x_fld rfl (.inl rfl) rfl rfl rfl) s_nil rfl) rfl) rfl)))) ss_nil)
  (ss_one (ss_ret (s_ifExp (s_truth (se_isx su (Exists.choose_spec T.i_Nothing) (by rfl) T.b_isinstance (by rfl) rfl (.inl rfl) rfl rfl rfl) (fun _ => rfl)) (s_tup (s_cons s_str s_nil rfl)) (s_tup (s_cons s_str s_nil rfl))))))))))
theorem s__law_paid : FnScope ["values", "most", "found", "amount", "value"] ["values", "most"] (defScope t__law_paid) := ⟨rfl, rfl, rfl, by decide +kernel, rfl, by decide +kernel, by decide +kernel⟩
theorem c__law_paid (T : Txt P K mg base) : Callee P w K mg base 1 "_law_paid" sp__law_paid := by
  have S := s__law_paid
  obtain ⟨f, fd, hm, F⟩ := T.f__law_paid
  exact callee_of (t := d__law_paid) F hm S (F.binds fun _ _ _ _ _ _ us hl => match us, hl with | [_, _], _ => rfl) len__law_paid (fun cdv A outer s H E Z EP hr tk =>
  (ss_cons (ss_asg (s_lst (s_cons s_bl s_nil rfl)) (sg_name (vs := List.range 99) (i := 2) S.nd rfl (.inr rfl) (.inl rfl) (by decide)) rfl rfl rfl)
  (ss_cons (ss_for (L2.passes_of rfl) rfl (si_rng2 (by rfl) T.b_range (s_cons s_int (s_cons (s_op op_addAll add_ok (s_var (i := 1) rfl (.inl rfl) rfl rfl) s_int) s_nil rfl) rfl) rfl rfl) (sg_name (vs := List.range 99) (i := 3) S.nd rfl (.inr rfl) (.inl rfl) (by decide)) (ss_one (ss_expr (s_bm PySem.F.plainAttrs_list PySem.F.slot_list_append PySem.F.type_list_append mt_append append_ok (by decide) (s_var (i := 2) rfl (.inr (.inl rfl)) rfl rfl) (s_cons (s_cmp (op_neA hr.u64) ne_ok (s_lc (own := [("value", 4)]) rfl S.nd (si_any (s_var (i := 0) rfl (.inl rfl) rfl rfl)) (blkOk_by (by first | rfl | kernel_rfl)) (fun _ _ _ _ _ => (sg_name (i := 4) S.nd rfl (.inl rfl) (.inr rfl) (by decide))) (fun _ _ _ _ _ => (sts_one (s_wt (s_andT (s_cmpT op_le (cmpI_ok (fun i j => decide (i ≤ j))) (s_var (i := 4) rfl (.inl rfl) rfl rfl) (s_var (i := 3) rfl (.inr (.inl rfl)) rfl rfl) rfl) (s_and1 (s_truth (s_ix ix_seq ix_ok (s_var (i := 2) rfl (.inr (.inl rfl)) rfl rfl) (s_op op_sub sub_ok (s_var (i := 3) rfl (.inr (.inl rfl)) rfl rfl) (s_var (i := 4) rfl (.inl rfl) rfl rfl)) (fun _ _ => rfl)) (fun _ => rfl))))))) (fun _ _ _ _ _ => s_int) (fun _ => rfl)) (s_lst s_nil) rfl) s_nil rfl) rfl rfl rfl rfl rfl) rfl)) (fun _ => rfl))
  (ss_one (ss_ret (s_var (i := 2) rfl (.inr (.inl rfl)) rfl rfl)))))) pure__law_paid
theorem s_law : FnScope ["script", "bag", "turn", "coinage", "times", "values", "value", "paid", "gaps", "amount", "can", "is_whole", "due", "number", "bad"] ["script"] (defScope t_law) := ⟨rfl, rfl, rfl, by decide +kernel, rfl, by decide +kernel, by decide +kernel⟩
theorem c_law (T : Txt P K mg base) : Callee P w K mg base 7 "law" sp_law := by
  have S := s_law
  obtain ⟨f, fd, hm, F⟩ := T.f_law
  obtain ⟨c, Pt, hcd, LF⟩ := T.l_law hm F
  exact callee_ofL (t := d_law) F hm S (F.binds fun _ _ _ _ _ _ us hl => match us, hl with | [_], _ => rfl) len_law (fun A outer s H E Z EP hr tk =>
  (ss_cons (ss_asg (s_fn (c__law_bag T) (hr.mono (by decide)) tk (by rfl) (s_cons (s_var (i := 0) rfl (.inl rfl) rfl rfl) s_nil rfl) rfl rfl rfl) (sg_name (vs := List.range 99) (i := 1) S.nd rfl (.inl rfl) (.inr rfl) (by decide)) rfl rfl rfl)
  (ss_cons (ss_for (L2.passes_of rfl) rfl (si_rng1 (by rfl) T.b_range (s_cons s_int s_nil rfl) rfl) (sg_name (vs := List.range 99) (i := 2) S.nd rfl (.inl rfl) (.inr rfl) (by decide)) (ss_cons (ss_asg (s_fn (c__law_coinage T) (hr.mono (by decide)) tk (by rfl) (s_cons (s_var (i := 1) rfl (.inl rfl) rfl rfl) (s_cons (s_op op_addAll add_ok s_int (s_fn (c__law_take T) (hr.mono (by decide)) tk (by rfl) (s_cons (s_var (i := 1) rfl (.inl rfl) rfl rfl) (s_cons s_int s_nil rfl) rfl) rfl rfl rfl)) (s_cons (s_fn (c__law_some T) (hr.mono (by decide)) tk (by rfl) (s_cons (s_var (i := 1) rfl (.inl rfl) rfl rfl) (s_cons (s_lst (s_cons s_int (s_cons s_int (s_cons s_int s_nil rfl) rfl) rfl)) s_nil rfl) rfl) rfl rfl rfl) (s_cons s_int s_nil rfl) rfl) rfl) rfl) rfl rfl rfl) (sg_name (vs := List.range 99) (i := 3) S.nd rfl (.inr rfl) (.inl rfl) (by decide)) rfl rfl rfl)
  (ss_cons (ss_asg (s_fn (c__law_some T) (hr.mono (by decide)) tk (by rfl) (s_cons (s_var (i := 1) rfl (.inl rfl) rfl rfl) (s_cons (s_lst (s_cons s_int (s_cons s_int (s_cons s_int (s_cons s_int s_nil rfl) rfl) rfl) rfl)) s_nil rfl) rfl) rfl rfl rfl) (sg_name (vs := List.range 99) (i := 4) S.nd rfl (.inr rfl) (.inl rfl) (by decide)) rfl rfl rfl)
  (ss_cons (ss_asg (s_callTy call_tuple_of tuple1_ok (by rfl) T.b_tuple (by decide +kernel) (s_cons (s_lc (own := [("value", 6)]) rfl S.nd (si_any (s_ix ix_seq ix_ok (s_var (i := 3) rfl (.inr (.inl rfl)) rfl rfl) s_int (fun _ _ => rfl))) (blkOk_by (by first | rfl | kernel_rfl)) (fun _ _ _ _ _ => (sg_name (i := 6) S.nd rfl (.inl rfl) (.inr rfl) (by decide))) (fun _ _ _ _ _ => sts_nil) (fun _ _ _ _ _ => (s_op op_mulAll mul_ok (s_var (i := 6) rfl (.inl rfl) rfl rfl) (s_var (i := 4) rfl (.inr (.inl rfl)) rfl rfl))) (fun _ => rfl)) s_nil rfl) (by decide) rfl rfl rfl) (sg_name (vs := List.range 99) (i := 5) S.nd rfl (.inl rfl) (.inr rfl) (by decide)) rfl rfl rfl)
  (ss_cons (ss_asg (s_tup (s_cons (s_var (i := 5) rfl (.inl rfl) rfl rfl) (s_cons (s_ix ix_seq ix_ok (s_var (i := 3) rfl (.inr (.inl rfl)) rfl rfl) s_int (fun _ _ => rfl)) s_nil rfl) rfl)) (sg_name (vs := List.range 99) (i := 3) S.nd rfl (.inr rfl) (.inl rfl) (by decide)) rfl rfl rfl)
  (ss_cons (ss_asg (s_fn (c__law_paid T) (hr.mono (by decide)) tk (by rfl) (s_cons (s_var (i := 5) rfl (.inl rfl) rfl rfl) (s_cons (s_op op_addAll add_ok (s_op op_mulAll mul_ok (s_ix ix_seq ix_ok (s_var (i := 5) rfl (.inl rfl) rfl rfl) s_int (fun _ _ => rfl)) (s_ix ix_seq ix_ok (s_var (i := 5) rfl (.inl rfl) rfl rfl) (s_un un_neg neg_ok s_int) (fun _ _ => rfl))) (s_ix ix_seq ix_ok (s_var (i := 5) rfl (.inl rfl) rfl rfl) (s_un un_neg neg_ok s_int) (fun _ _ => rfl))) s_nil rfl) rfl) rfl rfl rfl) (sg_name (vs := List.range 99) (i := 7) S.nd rfl (.inl rfl) (.inr rfl) (by decide)) rfl rfl rfl)
  (ss_cons (ss_setLc (i := 8) (own := [("amount", 9), ("can", 10)]) rfl S.nd rfl rfl (sw_true rfl rfl rfl (by decide +kernel)) (si_enum (by rfl) T.b_enumerate (s_cons (s_var (i := 7) rfl (.inl rfl) rfl rfl) s_nil rfl) rfl) (blkOk_by (by first | rfl | kernel_rfl)) (fun _ _ _ _ _ => (sg_tup rfl (sgs_cons (sg_name (i := 9) S.nd rfl (.inl rfl) (.inr rfl) (by decide)) (sgs_cons (sg_name (i := 10) S.nd rfl (.inl rfl) (.inr rfl) (by decide)) sgs_nil rfl) rfl) rfl rfl)) (fun _ _ _ _ _ => (sts_one (s_notT (s_truth (s_var (i := 10) rfl (.inl rfl) rfl rfl) (fun _ => rfl))))) (fun _ _ _ _ _ => (s_var (i := 9) rfl (.inl rfl) rfl rfl)) (fun _ => rfl))
  (ss_cons (ss_asg (s_cmp (op_eqA hr.u64) eq_ok (s_lc (own := [("can", 10)]) rfl S.nd (si_any (s_slice sl_all sl_ok (s_var (i := 7) rfl (.inl rfl) rfl rfl) (s_part (s_un un_neg neg_ok (s_ix ix_seq ix_ok (s_var (i := 5) rfl (.inl rfl) rfl rfl) s_int (fun _ _ => rfl)))) s_noPart)) (blkOk_by (by first | rfl | kernel_rfl)) (fun _ _ _ _ _ => (sg_name (i := 10) S.nd rfl (.inl rfl) (.inr rfl) (by decide))) (fun _ _ _ _ _ => (sts_one (s_notT (s_truth (s_var (i := 10) rfl (.inl rfl) rfl rfl) (fun _ => rfl))))) (fun _ _ _ _ _ => s_int) (fun _ => rfl)) (s_lst s_nil) rfl) (sg_name (vs := List.range 99) (i := 11) S.nd rfl (.inl rfl) (.inr rfl) (by decide)) rfl rfl rfl)
  (ss_cons (ss_if (s_truth (s_var (i := 11) rfl (.inl rfl) rfl rfl) (fun _ => rfl)) (ss_one (ss_asg (s_lst (s_cons (s_ifExp (s_cmpT (op_neA hr.u64) ne_ok (s_var (i := 8) rfl (.inl rfl) rfl rfl) (s_lst s_nil) rfl) (s_ix ix_seq ix_ok (s_var (i := 8) rfl (.inl rfl) rfl rfl) (s_un un_neg neg_ok s_int) (fun _ _ => rfl)) (s_un un_neg neg_ok s_int)) (s_cons (s_callB cr_lenA lenA_ok (by rfl) T.b_len (by decide +kernel) (s_cons (s_var (i := 8) rfl (.inl rfl) rfl rfl) s_nil rfl) (by decide) rfl rfl rfl) s_nil rfl) rfl)) (sg_name (vs := List.range 99) (i := 12) S.nd rfl (.inl rfl) (.inr rfl) (by decide)) rfl rfl rfl)) (ss_one (ss_asg (s_lst (s_cons s_non (s_cons s_non s_nil rfl) rfl)) (sg_name (vs := List.range 99) (i := 12) S.nd rfl (.inl rfl) (.inr rfl) (by decide)) rfl rfl rfl)))
  (ss_cons (ss_if (s_notT (s_truth (s_fn (c__law_alike T) (hr.mono (by decide)) tk (by rfl) (s_cons (s_lst (s_cons (s_fn (c_greatest_gap T) (hr.mono (by decide)) tk (by rfl) (s_cons (s_var (i := 3) rfl (.inr (.inl rfl)) rfl rfl) s_nil rfl) rfl rfl rfl) (s_cons (s_fn (c_gaps_many T) (hr.mono (by decide)) tk (by rfl) (s_cons (s_var (i := 3) rfl (.inr (.inl rfl)) rfl rfl) s_nil rfl) rfl rfl rfl) s_nil rfl) rfl)) (s_cons (s_var (i := 12) rfl (.inl rfl) rfl rfl) s_nil rfl) rfl) rfl rfl rfl) (fun _ => rfl))) (ss_one (ss_ret s_bl)) ss_nil)
  (ss_cons (ss_for (L2.passes_of rfl) rfl (si_any (s_sortset rfl hr.u64 (by rfl) T.b_sorted (by rfl) T.b_set (s_lst (s_cons s_int (s_cons (s_op op_sub sub_ok (s_callB cr_lenA lenA_ok (by rfl) T.b_len (by decide +kernel) (s_cons (s_var (i := 8) rfl (.inl rfl) rfl rfl) s_nil rfl) (by decide) rfl rfl rfl) s_int) (s_cons (s_fn (c__law_take T) (hr.mono (by decide)) tk (by rfl) (s_cons (s_var (i := 1) rfl (.inl rfl) rfl rfl) (s_cons (s_op op_addAll add_ok (s_callB cr_lenA lenA_ok (by rfl) T.b_len (by decide +kernel) (s_cons (s_var (i := 8) rfl (.inl rfl) rfl rfl) s_nil rfl) (by decide) rfl rfl rfl) s_int) s_nil rfl) rfl) rfl rfl rfl) s_nil rfl) rfl) rfl)) rfl rfl)) (sg_name (vs := List.range 99) (i := 13) S.nd rfl (.inr rfl) (.inl rfl) (by decide)) (ss_one (ss_if (s_wt (s_andT (s_chainT op_le op_lt (cmpI_ok (fun i j => decide (i ≤ j))) (cmpI_ok (fun i j => decide (i < j))) s_int (s_var (i := 13) rfl (.inr (.inl rfl)) rfl rfl) (s_callB cr_lenA lenA_ok (by rfl) T.b_len (by decide +kernel) (s_cons (s_var (i := 8) rfl (.inl rfl) rfl rfl) s_nil rfl) (by decide) rfl rfl rfl) rfl) (s_and1 (s_notT (s_truth (s_fn (c__law_alike T) (hr.mono (by decide)) tk (by rfl) (s_cons (s_lam (k := 4) (x := "_law_heard") (st := t__law_heard) (Ng := ["act", "error"]) (a := "act") T.f__law_heard (fun _ _ F => F.binds fun _ _ _ _ _ _ us hl => match us, hl with | [_], _ => rfl) s__law_heard rfl (.inl rfl) (fun g cdv A outer s H E Z EP mk hr tk hmk => g__law_heard (by decide) T hr tk hmk) LF.mem LF.uniq T.lam (T.tb _ LF.cs) hcd (hr.mono (by decide)) tk (by rfl) (LamX.lamS_by (by kernel_rfl)) rfl (fun _ _ _ _ _ => rfl) (tb := fun EX => (dFn sp_nth_gap EX (dCons (dVar 3) (dCons (dVar 13) dNil)))) (fun A outer s H E f c1 Zb EX hr tk => (s_fn (c_nth_gap T) (hr.mono (by decide)) tk (by rfl) (s_cons (s_var (i := 3) rfl (.inr (.inr rfl)) rfl rfl) (s_cons (s_var (i := 13) rfl (.inr (.inr rfl)) rfl rfl) s_nil rfl) rfl) rfl rfl rfl)) rfl rfl rfl) (s_cons (s_tup (s_cons s_str (s_cons (s_ix ix_seq ix_ok (s_var (i := 8) rfl (.inl rfl) rfl rfl) (s_var (i := 13) rfl (.inr (.inl rfl)) rfl rfl) (fun _ _ => rfl)) s_nil rfl) rfl)) s_nil rfl) rfl) rfl rfl rfl) (fun _ => rfl)))))) (ss_one (ss_ret s_bl)) ss_nil)) (fun _ => rfl))
  (ss_cons (ss_asg (s_op op_addAll add_ok (s_lst (s_cons s_non (s_cons s_bl (s_cons (s_un un_neg neg_ok s_int) (s_cons s_str s_nil rfl) rfl) rfl) rfl)) (s_ifExp (s_truth (s_var (i := 11) rfl (.inl rfl) rfl rfl) (fun _ => rfl)) (s_lst (s_cons (s_callB cr_lenA lenA_ok (by rfl) T.b_len (by decide +kernel) (s_cons (s_var (i := 8) rfl (.inl rfl) rfl rfl) s_nil rfl) (by decide) rfl rfl rfl) (s_cons (s_op op_addAll add_ok (s_callB cr_lenA lenA_ok (by rfl) T.b_len (by decide +kernel) (s_cons (s_var (i := 8) rfl (.inl rfl) rfl rfl) s_nil rfl) (by decide) rfl rfl rfl) s_int) s_nil rfl) rfl)) (s_lst s_nil))) (sg_name (vs := List.range 99) (i := 14) S.nd rfl (.inl rfl) (.inr rfl) (by decide)) rfl rfl rfl)
  (ss_one (ss_for (L2.passes_of rfl) rfl (si_any (s_var (i := 14) rfl (.inl rfl) rfl rfl)) (sg_name (vs := List.range 99) (i := 13) S.nd rfl (.inr rfl) (.inl rfl) (by decide)) (ss_one (ss_if (s_cmpT (op_neA hr.u64) ne_ok (s_lam (k := 4) (x := "_law_heard") (st := t__law_heard) (Ng := ["act", "error"]) (a := "act") T.f__law_heard (fun _ _ F => F.binds fun _ _ _ _ _ _ us hl => match us, hl with | [_], _ => rfl) s__law_heard rfl (.inl rfl) (fun g cdv A outer s H E Z EP mk hr tk hmk => g__law_heard (by decide) T hr tk hmk) LF.mem LF.uniq T.lam (T.tb _ LF.cs) hcd (hr.mono (by decide)) tk (by rfl) (LamX.lamS_by (by kernel_rfl)) rfl (fun _ _ _ _ _ => rfl) (tb := fun EX => (dFn sp_nth_gap EX (dCons (dVar 3) (dCons (dVar 13) dNil)))) (fun A outer s H E f c1 Zb EX hr tk => (s_fn (c_nth_gap T) (hr.mono (by decide)) tk (by rfl) (s_cons (s_var (i := 3) rfl (.inr (.inr rfl)) rfl rfl) (s_cons (s_var (i := 13) rfl (.inr (.inr rfl)) rfl rfl) s_nil rfl) rfl) rfl rfl rfl)) rfl rfl rfl) (s_tup (s_cons s_str s_nil rfl)) rfl) (ss_one (ss_ret s_bl)) ss_nil)) (fun _ => rfl)))))))))))))) (fun _ => rfl))
  (ss_one (ss_ret s_bl))))) pure_law
end
end K05
set_option Elab.async false
set_option linter.all false
set_option maxRecDepth 100000
set_option maxHeartbeats 0
namespace K05
open PySem PySem.Spec PyProof.Rows L2 RZ DL
def fnl_0 : List He.DefD := [dd "unit_of" t_unit_of, dd "spread" t_spread, dd "least_amounts" t_least_amounts, dd "greatest_gap" t_greatest_gap, dd "gaps_many" t_gaps_many, dd "is_integer" t_is_integer, dd "gaps_below" t_gaps_below, dd "nth_gap" t_nth_gap, dd "_law_bag" t__law_bag, dd "_law_take" t__law_take, dd "_law_some" t__law_some, dd "_law_alike" t__law_alike, dd "_law_mixed" t__law_mixed, dd "_law_coinage" t__law_coinage, dd "_law_heard" t__law_heard, dd "_law_paid" t__law_paid, dd "law" t_law]
def fnl : List He.DefD := fnl_0
def fal_0 : List He.Fa := [.glo "unit_of", .glo "spread", .glo "least_amounts", .glo "greatest_gap", .glo "gaps_many", .glo "is_integer", .glo "gaps_below", .glo "nth_gap", .glo "_law_bag", .glo "_law_take", .glo "_law_some", .glo "_law_alike", .glo "_law_mixed", .glo "_law_coinage", .glo "_law_heard", .glo "_law_paid", .glo "law", .free "abs", .free "bool", .free "enumerate", .free "int", .free "isinstance", .free "len", .free "list", .free "max", .free "min", .free "range", .free "set", .free "sorted", .free "str"]
def fal_1 : List He.Fa := [.free "sum", .free "tuple", .free "zip"]
def fal : List He.Fa := fal_0 ++ fal_1
def nms_0 : List PySem.Str := ["_wall", "CoinError", "Refused", "Nothing", "TooMany", "is_integer", "unit_of", "spread", "least_amounts", "greatest_gap", "gaps_many", "gaps_below", "nth_gap", "_law_bag", "_law_take", "_law_some", "_law_mixed", "_law_alike", "_law_coinage", "_law_heard", "_law_paid"]
def nms : List PySem.Str := nms_0
def isl : List PySem.Str := []
def vil : List FnI := []
def exl : List (PySem.W.Frag → Bool) := [fun K => exmB K "CoinError", fun K => fldB K, fun K => isxB K "Nothing", fun K => isxB K "Refused", fun K => isxB K "TooMany", fun K => err0B K "Nothing", fun K => lamFB K "law"]
def exb (K : PySem.W.Frag) : Bool := exl.all fun f => f K
theorem exl_at {K : PySem.W.Frag} (c : exb K = true) (i : Nat) {f : PySem.W.Frag → Bool} (h : exl[i]? = some f) : f K = true := List.all_eq_true.mp c f (List.mem_of_getElem? h)
abbrev R : PySem.W.OpenRow := PySem.W.OpenLaw.row PySem.Challenge.rw_coinready_k05_gaps_of_endless_coins
abbrev hk : PySem.W.Hook := hookZ 5 fal fnl isl exb vil
def ob (s : PySem.W.SharedT) : AlZ := obsZG 5 fal fnl isl exb (HandSHeadRun.getT s)
theorem ob_eq (s : PySem.W.SharedT) : ob s = hk.obs s.abs := obsZG_eq (vi := vil) (HandSHeadRun.getT_eq s)
theorem run (w : World) : HandSHeadRun.RunEq R (PySem.W.view R.prog [25]) hk ob 6000 nms w := by
  intro os
  kernel_rfl
theorem txt {K : PySem.W.Frag} {h base : Heap} {mg : Str → Option Value} (X : K.In h) (G : h.Ns mainGlobals mg) (c : SaysY fal fnl isl exb vil K) (lm : lamB K = true) (tb : ∀ p ∈ csK K, LamX.TabB base mg p.1 p.2) : Txt R.prog K mg base where
  x_CoinError := exmB_ok X G (exl_at c.x 0 rfl)
  x_fld := fldB_ok X G (exl_at c.x 1 rfl)
  i_Nothing := isxB_ok X G (exl_at c.x 2 rfl)
  i_Refused := isxB_ok X G (exl_at c.x 3 rfl)
  i_TooMany := isxB_ok X G (exl_at c.x 4 rfl)
  z_Nothing := err0B_ok X G (exl_at c.x 5 rfl)
  lam := lm
  tb := tb
  l_law := lam_fact X G c.d 16 rfl (exl_at c.x 6 rfl)
  b_abs := txt_free X G c.d 17 rfl
  b_bool := txt_free X G c.d 18 rfl
  b_enumerate := txt_free X G c.d 19 rfl
  b_int := txt_free X G c.d 20 rfl
  b_isinstance := txt_free X G c.d 21 rfl
  b_len := txt_free X G c.d 22 rfl
  b_list := txt_free X G c.d 23 rfl
  b_max := txt_free X G c.d 24 rfl
  b_min := txt_free X G c.d 25 rfl
  b_range := txt_free X G c.d 26 rfl
  b_set := txt_free X G c.d 27 rfl
  b_sorted := txt_free X G c.d 28 rfl
  b_str := txt_free X G c.d 29 rfl
  b_sum := txt_free X G c.d 30 rfl
  b_tuple := txt_free X G c.d 31 rfl
  b_zip := txt_free X G c.d 32 rfl
  f_unit_of := txt_fn X G c.d 0 0 rfl rfl
  f_spread := txt_fn X G c.d 1 1 rfl rfl
  f_least_amounts := txt_fn X G c.d 2 2 rfl rfl
  f_greatest_gap := txt_fn X G c.d 3 3 rfl rfl
  f_gaps_many := txt_fn X G c.d 4 4 rfl rfl
  f_is_integer := txt_fn X G c.d 5 5 rfl rfl
  f_gaps_below := txt_fn X G c.d 6 6 rfl rfl
  f_nth_gap := txt_fn X G c.d 7 7 rfl rfl
  f__law_bag := txt_fn X G c.d 8 8 rfl rfl
  f__law_take := txt_fn X G c.d 9 9 rfl rfl
  f__law_some := txt_fn X G c.d 10 10 rfl rfl
  f__law_alike := txt_fn X G c.d 11 11 rfl rfl
  f__law_mixed := txt_fn X G c.d 12 12 rfl rfl
  f__law_coinage := txt_fn X G c.d 13 13 rfl rfl
  f__law_heard := txt_fn X G c.d 14 14 rfl rfl
  f__law_paid := txt_fn X G c.d 15 15 rfl rfl
  f_law := txt_fn X G c.d 16 16 rfl rfl
end K05
open PySem PySem.W PySem.Calls PyProof.Rows
set_option maxHeartbeats 0 in
theorem PySem.Challenge.cw_coinready_k05_gaps_of_endless_coins_holds : PySem.Challenge.rw_coinready_k05_gaps_of_endless_coins.Holds := by
  w_on; o_law
  refine HandSHeadRun.head_any (r := OpenLaw.row PySem.Challenge.rw_coinready_k05_gaps_of_endless_coins) (q := view (OpenLaw.row PySem.Challenge.rw_coinready_k05_gaps_of_endless_coins).prog [25]) (H := K05.hk) (ob := K05.ob) (M := 6000) (loose := K05.nms) (d := HandSHeadRun.topDef (OpenLaw.row PySem.Challenge.rw_coinready_k05_gaps_of_endless_coins).prog 25) (kwd := []) K05.ob_eq
    (by kernel_rfl) (fun s => by kernel_rfl) K05.run (by kernel_rfl) (by kernel_rfl) (by kernel_rfl) (by rfl) (by first | assumption | decide +kernel) (by decide +kernel) ⟨rfl, rfl, rfl, rfl, rfl, by decide +kernel⟩ ?hw ?hc
  case hw => w_witness2
  case hc =>
    refine DL.walkGT (l := PySem.Challenge.rw_coinready_k05_gaps_of_endless_coins) (n := 63) (k := 7) (sp := K05.sp_law) rfl (by decide) (by kernel_rfl) ⟨rfl, by decide, by decide⟩ ?F K05.law_true
    intro w mg h Y G
    obtain ⟨K, KX, c⟩ := Y
    refine ⟨K, DL.csK K, KX, c.tabs KX, fun base _ _ tb => ?_⟩
    have e : (HandSHeadRun.topDef (OpenLaw.row PySem.Challenge.rw_coinready_k05_gaps_of_endless_coins).prog 25).name = ("law" : PySem.Str) := by kernel_rfl
    rw [e]
    exact K05.c_law (K05.txt KX G c.y c.lam tb)
