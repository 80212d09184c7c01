import PyProof.Rows.All
import Wide.All
import OpenK.AllK
import Wide.FinOn
import HandS.ForMost
import HandS.IsInst
import HandS.DictComp
import HandS.TupAny
import HandS.TupMul
import HandS.Conv
import HandS.Zip
import HandS.Walk
import HandS.DictTup
import HandS.SortInts
import HandS.SortKw
import HandS.Style
import HandS.Wide
import KE.DataMinMax
import KE.GoesMore
import KE.KDictCopyH
import KE.KDictDisplayH
import KE.KDictPairs
import KE.SortData
import PySem.Challenge.RW_paidsecond_k04_whole_many_folk
set_option Elab.async false
set_option maxRecDepth 100000
set_option maxHeartbeats 4000000
set_option autoImplicit false
set_option linter.unusedVariables false
namespace PD
open PySem PySem.Spec PyProof.Rows L2

/-! ### plain data -/
inductive D where
  | non | bl (b : Bool) | int (i : Int) | str (x : Str) | tup (ds : List D) | lst (ds : List D) | dct (kvs : List (Key × D)) | bag | val (v : V) | scr (ns : List Int)
  | dtb (P : Program) (w : World) (kvs : List (List Bool × Int))
/-- what an own thing holds -/
inductive Ct where
  | l (ds : List D) | m (kvs : List (Key × D)) | t (P : Program) (w : World) (kvs : List (List Bool × Int))
/-- a slot: unknown, data, an own thing -/
inductive Sl where
  | u | d (x : D) | o (c : Ct)
abbrev Bag := Int × Int × Int
abbrev Rho := List Sl
def bagH (B : Bag) : HO := .lst [.int B.1, .int B.2.1, .int B.2.2]

/-- a dict whose keys are tuples of bools, by its object -/
def dO (q : Addr) (o : Obj) : HO := .ext fun h => h.get? q = some o ∧ (q == sysModules) = false
def bl2 (bs : List Bool) : List Leaf := bs.map fun b => .num (if b = true then 1 else 0)
structure TbX (P : Program) (w : World) (o : Obj) (xs : List (List Leaf × Addr × Value)) : Prop where
  ex : o.ExactDict
  da : ∃ es ep, o.data = .dict es ep ∧ es.toList = xs.map (entryOfKey (tupleKind (leafKind P w)))
  nd : (xs.map (·.1)).Nodup
def TbP (K : PySem.W.Frag) (F : Hp) (p : List Bool × Int) (q : List Leaf × Addr × Value) : Prop := q.1 = bl2 p.1 ∧ SqT K F q.2.1 (p.1.map V.bl) ∧ RelV (.int p.2) q.2.2
def TbAt (K : PySem.W.Frag) (P : Program) (w : World) (F : Hp) (o : Obj) (kvs : List (List Bool × Int)) : Prop := kvs.length ≤ sizeLine ∧ ∃ xs, TbX P w o xs ∧ Paired (TbP K F) kvs xs
mutual
inductive Rep (K : PySem.W.Frag) (β : Option Addr) (F : Hp) : D → V → Prop
  | non : Rep K β F .non .non
  | bl (b : Bool) : Rep K β F (.bl b) (.bl b)
  | int (i : Int) : Rep K β F (.int i) (.int i)
  | str (x : Str) : Rep K β F (.str x) (.str x)
  | tup {a : Addr} {xs : List V} {ds : List D} : SqT K F a xs → xs.length ≤ sizeLine → RepAll K β F ds xs → Rep K β F (.tup ds) (.ref a)
  | lst {a : Addr} {xs : List V} {ds : List D} : F a = some (.lst xs) → xs.length ≤ sizeLine → RepAll K β F ds xs → Rep K β F (.lst ds) (.ref a)
  | dct {a : Addr} {kvs : List (Key × D)} {ks : List Key} {ds : List D} {kws : List (Key × V)} {vs : List V} : F a = some (.dK kws) → kws.length ≤ sizeLine → kvs = ks.zip ds → kws = ks.zip vs → ks.length = vs.length → RepAll K β F ds vs → Rep K β F (.dct kvs) (.ref a)
  | bag {a : Addr} : β = some a → Rep K β F .bag (.ref a)
  | val (v : V) : Rep K β F (.val v) v
  | scr {a : Addr} {ns : List Int} : SqL K F a (ns.map V.int) → Rep K β F (.scr ns) (.ref a)
  | dtb {a q : Addr} {o : Obj} {P : Program} {w : World} {kvs : List (List Bool × Int)} : F a = some (dO q o) → TbAt K P w F o kvs → Rep K β F (.dtb P w kvs) (.ref a)
inductive RepAll (K : PySem.W.Frag) (β : Option Addr) (F : Hp) : List D → List V → Prop
  | nil : RepAll K β F [] []
  | cons {d : D} {ds : List D} {v : V} {vs : List V} : Rep K β F d v → RepAll K β F ds vs → RepAll K β F (d :: ds) (v :: vs)
end

theorem Same.seqT {K : PySem.W.Frag} {H H' : Hp} {a : Addr} {xs : List V} (e : Same H H') (h : SqT K H a xs) : SqT K H' a xs := by
  rcases h with (h | ⟨o, h⟩) | h
  · exact .inl (.inl (e _ _ h))
  · exact .inl (.inr ⟨o, e _ _ h⟩)
  · exact .inr h
theorem TbAt.mono {K : PySem.W.Frag} {P : Program} {w : World} {F F' : Hp} {o : Obj} {kvs : List (List Bool × Int)} (e : Same F F') (h : TbAt K P w F o kvs) : TbAt K P w F' o kvs :=
  let ⟨h1, xs, h2, h3⟩ := h
  ⟨h1, xs, h2, Paired.mapP h3 fun _ _ z => ⟨z.1, Same.seqT e z.2.1, z.2.2⟩⟩
section
variable {K : PySem.W.Frag} {β : Option Addr} {F F' : Hp}
mutual
theorem Rep.mono (e : Same F F') : ∀ {d : D} {v : V}, Rep K β F d v → Rep K β F' d v
  | _, _, .non => .non
  | _, _, .bl b => .bl b
  | _, _, .int i => .int i
  | _, _, .str x => .str x
  | _, _, .tup h l r => .tup (Same.seqT e h) l (RepAll.mono e r)
  | _, _, .lst h l r => .lst (e _ _ h) l (RepAll.mono e r)
  | _, _, .dct h l z1 z2 z3 r => .dct (e _ _ h) l z1 z2 z3 (RepAll.mono e r)
  | _, _, .bag h => .bag h
  | _, _, .val v => .val v
  | _, _, .scr h => .scr (e.seq h)
  | _, _, .dtb h t => .dtb (e _ _ h) (t.mono e)
theorem RepAll.mono (e : Same F F') : ∀ {ds : List D} {vs : List V}, RepAll K β F ds vs → RepAll K β F' ds vs
  | _, _, .nil => .nil
  | _, _, .cons h t => .cons (Rep.mono e h) (RepAll.mono e t)
end
theorem RepAll.length : ∀ {ds : List D} {vs : List V}, RepAll K β F ds vs → ds.length = vs.length
  | _, _, .nil => rfl
  | _, _, .cons _ t => congrArg (· + 1) (RepAll.length t)
theorem RepAll.get : ∀ {ds : List D} {vs : List V} {i : Nat} {d : D}, RepAll K β F ds vs → ds[i]? = some d → ∃ v, vs[i]? = some v ∧ Rep K β F d v
  | _, _, _, _, .nil, e => by simp at e
  | _, _, 0, _, .cons h _, e => by simp at e; subst e; exact ⟨_, rfl, h⟩
  | _, _, i + 1, d, .cons _ t, e => by
    obtain ⟨v, h1, h2⟩ := RepAll.get (i := i) (d := d) t (by simpa using e)
    exact ⟨v, by simpa using h1, h2⟩
theorem RepAll.get' : ∀ {ds : List D} {vs : List V} {i : Nat} {v : V}, RepAll K β F ds vs → vs[i]? = some v → ∃ d, ds[i]? = some d ∧ Rep K β F d v
  | _, _, _, _, .nil, e => by simp at e
  | _, _, 0, _, .cons h _, e => by simp at e; subst e; exact ⟨_, rfl, h⟩
  | _, _, i + 1, v, .cons _ t, e => by
    obtain ⟨d, h1, h2⟩ := RepAll.get' (i := i) (v := v) t (by simpa using e)
    exact ⟨d, by simpa using h1, h2⟩
theorem RepAll.append : ∀ {ds es : List D} {vs ws : List V}, RepAll K β F ds vs → RepAll K β F es ws → RepAll K β F (ds ++ es) (vs ++ ws)
  | _, _, _, _, .nil, s => s
  | _, _, _, _, .cons r t, s => .cons r (RepAll.append t s)
theorem RepAll.take : ∀ {ds : List D} {vs : List V} (n : Nat), RepAll K β F ds vs → RepAll K β F (ds.take n) (vs.take n)
  | _, _, 0, _ => .nil
  | _, _, _ + 1, .nil => .nil
  | _, _, n + 1, .cons r t => .cons r (RepAll.take n t)
theorem RepAll.drop : ∀ {ds : List D} {vs : List V} (n : Nat), RepAll K β F ds vs → RepAll K β F (ds.drop n) (vs.drop n)
  | _, _, 0, r => r
  | _, _, _ + 1, .nil => .nil
  | _, _, n + 1, .cons _ t => RepAll.drop n t
theorem RepAll.set {d : D} {v : V} (r : Rep K β F d v) : ∀ {ds : List D} {vs : List V} (i : Nat), RepAll K β F ds vs → RepAll K β F (ds.set i d) (vs.set i v)
  | _, _, _, .nil => .nil
  | _, _, 0, .cons _ t => .cons r t
  | _, _, i + 1, .cons q t => .cons q (RepAll.set r i t)
theorem RepAll.eraseIdx : ∀ {ds : List D} {vs : List V} (i : Nat), RepAll K β F ds vs → RepAll K β F (ds.eraseIdx i) (vs.eraseIdx i)
  | _, _, _, .nil => .nil
  | _, _, 0, .cons _ t => t
  | _, _, i + 1, .cons q t => .cons q (RepAll.eraseIdx i t)
theorem RepAll.mem : ∀ {ds : List D} {vs : List V} {v : V}, RepAll K β F ds vs → v ∈ vs → ∃ d ∈ ds, Rep K β F d v
  | _, _, _, .nil, h => by cases h
  | _, _, v, .cons r t, h => by
    rcases List.mem_cons.mp h with rfl | h
    · exact ⟨_, List.mem_cons_self, r⟩
    · obtain ⟨d, hd, q⟩ := RepAll.mem t h
      exact ⟨d, List.mem_cons_of_mem _ hd, q⟩
theorem RepAll.ints : ∀ {ns : List Int} {vs : List V}, RepAll K β F (ns.map D.int) vs → vs = ns.map V.int
  | [], _, .nil => rfl
  | n :: ns, _, .cons h t => by
    cases h
    rw [RepAll.ints t]
    rfl
theorem RepAll.ofInts : ∀ (ns : List Int), RepAll K β F (ns.map D.int) (ns.map V.int)
  | [] => .nil
  | n :: ns => .cons (.int n) (RepAll.ofInts ns)
theorem RepAll.bls : ∀ {bs : List Bool} {vs : List V}, RepAll K β F (bs.map D.bl) vs → vs = bs.map V.bl
  | [], _, .nil => rfl
  | n :: ns, _, .cons h t => by
    cases h
    rw [RepAll.bls t]
    rfl
end

/-- what an own thing holds, on the heap -/
def CtOk (K : PySem.W.Frag) (β : Option Addr) (F : Hp) : Ct → HO → Prop
  | .l ds, ho => ∃ vs, ho = .lst vs ∧ vs.length ≤ sizeLine ∧ RepAll K β F ds vs
  | .m kvs, ho => ∃ (ks : List Key) (ds : List D) (vs : List V), ho = .dK (ks.zip vs) ∧ kvs = ks.zip ds ∧ ks.length = vs.length ∧ ks.length ≤ sizeLine ∧ RepAll K β F ds vs
  | .t P w kvs, ho => ∃ q o, ho = dO q o ∧ TbAt K P w F o kvs
theorem CtOk.mono {K : PySem.W.Frag} {β : Option Addr} {F F' : Hp} (e : Same F F') : ∀ {c : Ct} {ho : HO}, CtOk K β F c ho → CtOk K β F' c ho
  | .l ds, ho, h => by
    obtain ⟨vs, h1, h2, h3⟩ := h
    exact ⟨vs, h1, h2, h3.mono e⟩
  | .m kvs, ho, h => by
    obtain ⟨ks, ds, vs, h1, h2, h3, h4, h5⟩ := h
    exact ⟨ks, ds, vs, h1, h2, h3, h4, h5.mono e⟩
  | .t P w kvs, ho, h => by
    obtain ⟨q, o, h1, h2⟩ := h
    exact ⟨q, o, h1, h2.mono e⟩
/-- an own thing as data -/
def Ct.d : Ct → D
  | .l ds => .lst ds
  | .m kvs => .dct kvs
  | .t P w kvs => .dtb P w kvs

/-! ### the state -/
/-- a def's entry: the bag's place, the heap at the entry, the part of it that stands still -/
structure C0 where
  β : Option Addr
  H0 : Hp
  F0 : Hp
structure OwnAt (K : PySem.W.Frag) (c : C0) (H F : Hp) (p : Addr) (ct : Ct) : Prop where
  at_ : ∃ ho, H p = some ho ∧ CtOk K c.β F ct ho
  new : c.H0 p = none
  fr : F p = none
structure Rel (K : PySem.W.Frag) (c : C0) (ρ : Rho) (B : Bag) (σ : L2.St) (H F : Hp) : Prop where
  len : ρ.length = σ.length
  fr : ∀ b o, some b ≠ c.β → c.H0 b = some o → H b = some o
  gr : Same c.F0 F
  dj : ∀ b, c.H0 b ≠ none → c.F0 b = none → F b = none
  sub : Same F H
  bag : ∀ a, c.β = some a → H a = some (bagH B) ∧ c.H0 a ≠ none ∧ c.F0 a = none
  dat : ∀ (i : Nat) (x : D), ρ[i]? = some (.d x) → ∃ v, σ[i]? = some (some v) ∧ Rep K c.β F x v
  own : ∀ (i : Nat) (ct : Ct), ρ[i]? = some (.o ct) → ∃ p, σ[i]? = some (some (.ref p)) ∧ OwnAt K c H F p ct
  sep : ∀ (i j : Nat) (ct ct' : Ct) (p : Addr), ρ[i]? = some (.o ct) → ρ[j]? = some (.o ct') → σ[i]? = some (some (.ref p)) → σ[j]? = some (some (.ref p)) → i = j

/-- a result: data, or a new own thing -/
inductive Res where
  | d (x : D) | o (c : Ct)
def ResOk (K : PySem.W.Frag) (c : C0) (H F : Hp) : Res → V → Prop
  | .d x, v => Rep K c.β F x v
  | .o ct, v => ∃ p, v = .ref p ∧ OwnAt K c H F p ct

section
variable {K : PySem.W.Frag} {c : C0} {ρ : Rho} {B B' : Bag} {σ : L2.St} {H H' F F' : Hp}
theorem Rel.F_bag (R : Rel K c ρ B σ H F) {a : Addr} (h : c.β = some a) : F a = none := R.dj a (R.bag a h).2.1 (R.bag a h).2.2
/-- the heap has grown; what stood is as it was -/
theorem Rel.grow (R : Rel K c ρ B σ H F) (s : Same H H') (e : Same F F') (sub : Same F' H') (dj : ∀ b, H b ≠ none → F b = none → F' b = none) : Rel K c ρ B σ H' F' where
  len := R.len
  fr := fun b o hb h => s b o (R.fr b o hb h)
  gr := R.gr.trans e
  dj := fun b h1 h2 => by
    by_cases hb : some b = c.β
    · exact dj b (by rw [(R.bag b hb.symm).1]; exact fun z => nomatch z) (R.F_bag hb.symm)
    · refine dj b (fun z => ?_) (R.dj b h1 h2)
      cases q : c.H0 b with
      | none => exact h1 q
      | some o => rw [R.fr b o hb q] at z; cases z
  sub := sub
  bag := fun a h => ⟨s _ _ (R.bag a h).1, (R.bag a h).2⟩
  dat := fun i x h => let ⟨v, h1, h2⟩ := R.dat i x h; ⟨v, h1, h2.mono e⟩
  own := fun i ct h => by
    obtain ⟨p, h1, ⟨ho, h2, h3⟩, h4, h5⟩ := R.own i ct h
    exact ⟨p, h1, ⟨ho, s _ _ h2, h3.mono e⟩, h4, dj p (by rw [h2]; exact fun z => nomatch z) h5⟩
  sep := R.sep
/-- a new frozen object -/
theorem Rel.new (R : Rel K c ρ B σ H F) {p : Addr} {o : HO} (np : H p = none) : Rel K c ρ B σ (upd H p o) (upd F p o) ∧ Same F (upd F p o) := by
  have nF : F p = none := by
    cases q : F p with
    | none => rfl
    | some u => rw [R.sub p u q] at np; cases np
  have e : Same F (upd F p o) := fun b u h => by rw [upd_ne (ne_of_none h nF)]; exact h
  refine ⟨R.grow (fun b u h => by rw [upd_ne (ne_of_none h np)]; exact h) e (fun b u h => ?_) (fun b h1 h2 => ?_), e⟩
  · by_cases hb : b = p
    · subst hb; rw [upd_same] at h ⊢; exact h
    · rw [upd_ne hb] at h ⊢; exact R.sub b u h
  · by_cases hb : b = p
    · subst hb; exact absurd np h1
    · rw [upd_ne hb]; exact h2
/-- a new object that is not frozen -/
theorem Rel.newO (R : Rel K c ρ B σ H F) {p : Addr} {o : HO} (np : H p = none) : Rel K c ρ B σ (upd H p o) F :=
  R.grow (fun b u h => by rw [upd_ne (ne_of_none h np)]; exact h) (Same.refl F) (fun b u h => by rw [upd_ne (ne_of_none (R.sub b u h) np)]; exact R.sub b u h) fun b h1 h2 => h2
theorem Rel.H0_none (R : Rel K c ρ B σ H F) {p : Addr} (np : H p = none) : c.H0 p = none := by
  cases q : c.H0 p with
  | none => rfl
  | some o =>
    by_cases hb : some p = c.β
    · rw [(R.bag p hb.symm).1] at np; cases np
    · rw [R.fr p o hb q] at np; cases np
theorem Rel.F_none (R : Rel K c ρ B σ H F) {p : Addr} (np : H p = none) : F p = none := by
  cases q : F p with
  | none => rfl
  | some u => rw [R.sub p u q] at np; cases np
theorem Rel.H_none (R : Rel K c ρ B σ H F) {p : Addr} (h : c.H0 p = none) : some p ≠ c.β := fun z => (R.bag p z.symm).2.1 h
/-- an own thing that no slot holds becomes frozen -/
theorem Rel.freeze (R : Rel K c ρ B σ H F) {p : Addr} {ho : HO} (hp : H p = some ho) (n0 : c.H0 p = none) (nF : F p = none) (ns : ∀ (i : Nat) (ct : Ct), ρ[i]? = some (.o ct) → σ[i]? ≠ some (some (.ref p))) : Rel K c ρ B σ H (upd F p ho) ∧ Same F (upd F p ho) := by
  have e : Same F (upd F p ho) := fun b u h => by rw [upd_ne (ne_of_none h nF)]; exact h
  refine ⟨⟨R.len, R.fr, R.gr.trans e, fun b h1 h2 => ?_, fun b u h => ?_, R.bag, fun i x h => let ⟨v, h1, h2⟩ := R.dat i x h; ⟨v, h1, h2.mono e⟩, fun i ct h => ?_, R.sep⟩, e⟩
  · by_cases hb : b = p
    · subst hb; exact absurd n0 h1
    · rw [upd_ne hb]; exact R.dj b h1 h2
  · by_cases hb : b = p
    · subst hb; rw [upd_same] at h; rw [← h]; exact hp
    · rw [upd_ne hb] at h; exact R.sub b u h
  · obtain ⟨q, h1, ⟨ho', h2, h3⟩, h4, h5⟩ := R.own i ct h
    have hq : q ≠ p := fun z => ns i ct h (by rw [h1, z])
    exact ⟨q, h1, ⟨ho', h2, h3.mono e⟩, h4, by rw [upd_ne hq]; exact h5⟩
theorem CtOk.rep {ct : Ct} {ho : HO} {p : Addr} {β : Option Addr} (h : CtOk K β F ct ho) (hp : F p = some ho) : Rep K β F ct.d (.ref p) := by
  cases ct with
  | l ds =>
    obtain ⟨vs, rfl, h1, h2⟩ := h
    exact .lst hp h1 h2
  | m kvs =>
    obtain ⟨ks, ds, vs, rfl, h1, h2, h3, h4⟩ := h
    exact .dct hp (by rw [List.length_zip]; omega) h1 rfl h2 h4
  | t P w kvs =>
    obtain ⟨q, o, rfl, h1⟩ := h
    exact .dtb hp h1
end

/-! ### the judgements -/
structure Top where
  P : Program
  w : World
  K : PySem.W.Frag
  mg : Str → Option Value
  base : Heap
structure G where
  T : Top
  N : List Str
  sc : Scope
  k : Nat
  cf : Str → Bool
structure At (g : G) (X : Cx) : Prop where
  hP : X.prog = g.T.P
  hw : X.w = g.T.w
  hK : X.K = g.T.K
  hm : X.mg = g.T.mg
  hb : X.base = g.T.base
  hN : X.N = g.N
  hs : X.env.scope = g.sc
  nd : g.N.Nodup
  calm : X.calm = true
  room : Room g.k X.A
  cell : ∀ x, g.cf x = true → X.fn x = true
  own : PassesOwn (model X.prog X.w) X.A X.env X.xe

/-- a new own thing is none of those that slots hold -/
def Apart (ρ : Rho) (σ : L2.St) (r : Res) (v : V) : Prop := ∀ ct', r = .o ct' → ∀ (i : Nat) (ct : Ct) (p : Addr), ρ[i]? = some (.o ct) → σ[i]? = some (some (.ref p)) → v ≠ .ref p
/-- an expression comes to r -/
def tEv (K : PySem.W.Frag) (ρ : Rho) (B : Bag) (r : Res) (B' : Bag) : TE := fun σ H Q => ∃ c F, Rel K c ρ B σ H F ∧ ∀ v H' F', Rel K c ρ B' σ H' F' → Same F F' → ResOk K c H' F' r v → Apart ρ σ r v → Q v H'
structure EvR (g : G) (e : Expr) (ρ : Rho) (B : Bag) (r : Res) (B' : Bag) : Prop where
  h : ∀ X, At g X → PE X e (tEv g.T.K ρ B r B')
abbrev Ev (g : G) (e : Expr) (ρ : Rho) (B : Bag) (x : D) (B' : Bag) : Prop := EvR g e ρ B (.d x) B'
def tEvs (K : PySem.W.Frag) (ρ : Rho) (B : Bag) (ds : List D) (B' : Bag) : TA := fun σ H Q => ∃ c F, Rel K c ρ B σ H F ∧ ∀ vs H' F', Rel K c ρ B' σ H' F' → Same F F' → RepAll K c.β F' ds vs → Q vs H'
structure Evs (g : G) (es : List Expr) (ρ : Rho) (B : Bag) (ds : List D) (B' : Bag) : Prop where
  h : ∀ X, At g X → PA X es (tEvs g.T.K ρ B ds B')
def tTs (K : PySem.W.Frag) (ρ : Rho) (B : Bag) (b : Bool) (B' : Bag) : TT := fun σ H Q => ∃ c F, Rel K c ρ B σ H F ∧ ∀ H' F', Rel K c ρ B' σ H' F' → Same F F' → Q b H'
structure Ts (g : G) (e : Expr) (ρ : Rho) (B : Bag) (b : Bool) (B' : Bag) : Prop where
  h : ∀ X, At g X → PT X e (tTs g.T.K ρ B b B')

/-- what is wanted behind a statement -/
structure En where
  nx : Rho → Bag → Prop
  rt : Res → Bag → Prop
  bk : Rho → Bag → Prop := fun _ _ => False
  ct : Rho → Bag → Prop := fun _ _ => False
def GoesTo (K : PySem.W.Frag) (c : C0) (F : Hp) (P : Rho → Bag → Prop) (Q : L2.St → Hp → Prop) : Prop := ∀ ρ' B' σ' H' F', Rel K c ρ' B' σ' H' F' → Same F F' → P ρ' B' → Q σ' H'
def RetsTo (K : PySem.W.Frag) (c : C0) (F : Hp) (P : Res → Bag → Prop) (Q : VK) : Prop := ∀ ρ' B' σ' H' F' r v, Rel K c ρ' B' σ' H' F' → Same F F' → ResOk K c H' F' r v → P r B' → Q v H'
def tEx (K : PySem.W.Frag) (ρ : Rho) (B : Bag) (E : En) : TS := fun D σ H => ∃ c F, Rel K c ρ B σ H F ∧ GoesTo K c F E.nx D.nx ∧ RetsTo K c F E.rt D.rt ∧ GoesTo K c F E.bk D.bk ∧ GoesTo K c F E.ct D.ct
structure Ex (g : G) (st : Stmt) (ρ : Rho) (B : Bag) (E : En) : Prop where
  h : ∀ X, At g X → PS X st (tEx g.T.K ρ B E)
structure Exs (g : G) (sts : List Stmt) (ρ : Rho) (B : Bag) (E : En) : Prop where
  h : ∀ X, At g X → PSs X sts (tEx g.T.K ρ B E)

/-! ### what a reading may be weakened to -/
theorem PE.imp {X : Cx} {e : Expr} {t t' : TE} (h : PE X e t) (w : ∀ σ H Q, t' σ H Q → t σ H Q) : PE X e t' := ⟨fun pins s σ H Q I q => h.run pins s σ H Q I (w σ H Q q)⟩
theorem PT.imp {X : Cx} {e : Expr} {t t' : TT} (h : PT X e t) (w : ∀ σ H Q, t' σ H Q → t σ H Q) : PT X e t' := ⟨fun pins s σ H Q I q => h.run pins s σ H Q I (w σ H Q q)⟩
theorem PA.imp {X : Cx} {e : List Expr} {t t' : TA} (h : PA X e t) (w : ∀ σ H Q, t' σ H Q → t σ H Q) : PA X e t' := ⟨fun pos pins s σ H Q I q => h.run pos pins s σ H Q I (w σ H Q q)⟩
theorem PS.imp {X : Cx} {st : Stmt} {t t' : TS} (h : PS X st t) (w : ∀ D σ H, t' D σ H → t D σ H) : PS X st t' := ⟨fun pins s σ H D I q => h.run pins s σ H D I (w D σ H q)⟩
theorem PSs.imp {X : Cx} {st : List Stmt} {t t' : TS} (h : PSs X st t) (w : ∀ D σ H, t' D σ H → t D σ H) : PSs X st t' := ⟨fun pins s σ H D I q => h.run pins s σ H D I (w D σ H q)⟩
end PD
namespace PD
open PySem PySem.Spec PyProof.Rows L2

section
variable {g : G} {ρ : Rho} {B B1 B2 B3 : Bag} {a b e : Expr} {pos : Pos} {x y z d : D}

theorem apart_d {ρ : Rho} {σ : L2.St} {x : D} {v : V} : Apart ρ σ (.d x) v := fun _ e => nomatch e
theorem ResOk.dat {K : PySem.W.Frag} {c : C0} {H F : Hp} {x : D} {v : V} (h : Rep K c.β F x v) : ResOk K c H F (.d x) v := h

/-- two expressions in a row -/
theorem two {K : PySem.W.Frag} {c : C0} {σ : L2.St} {H F : Hp} {k : V → V → Hp → Prop} (R : Rel K c ρ B σ H F) (q : ∀ v w H2 F2, Rel K c ρ B2 σ H2 F2 → Same F F2 → Rep K c.β F2 x v → Rep K c.β F2 y w → k v w H2) :
    tEv K ρ B (.d x) B1 σ H fun v H1 => tEv K ρ B1 (.d y) B2 σ H1 fun w H2 => k v w H2 :=
  ⟨c, F, R, fun v H1 F1 R1 e1 h1 _ => ⟨c, F1, R1, fun w H2 F2 R2 e2 h2 _ => q v w H2 F2 R2 (e1.trans e2) (Rep.mono e2 h1) h2⟩⟩

/-! ### names and constants -/
theorem ev_var {i : Nat} {n : Str} (hN : g.N[i]? = some n) (hv : Vis g.sc n) (hr : ρ[i]? = some (.d d)) (hd : (n == ("__debug__" : Str)) = false := by decide) (hcd : (n == ("__classdict__" : Str)) = false := by decide) : Ev g (.Name n pos) ρ B d B :=
  ⟨fun X hX => PE.imp (pe_var (X := X) (i := i) (by rw [hX.hN]; exact hN) (by rw [hX.hs]; exact hv) hd hcd) fun σ H Q ⟨c, F, R, q⟩ =>
    let ⟨v, h1, h2⟩ := R.dat i d hr
    ⟨v, h1, q v H F R (Same.refl F) h2 apart_d⟩⟩
theorem ev_c {K : PySem.W.Frag} {σ : L2.St} {H : Hp} {Q : VK} {v : V} (h : tEv K ρ B (.d x) B σ H Q) (r : ∀ β F, Rep K β F x v) : Q v H :=
  let ⟨c, F, R, q⟩ := h
  q v H F R (Same.refl F) (r c.β F) apart_d
theorem ev_int {i j} : Ev g (.Constant (.int i) j pos) ρ B (.int i) B := ⟨fun X hX => PE.imp pe_int fun σ H Q h => ev_c h fun _ _ => .int i⟩
theorem ev_bl {i j} : Ev g (.Constant (.bool i) j pos) ρ B (.bl i) B := ⟨fun X hX => PE.imp pe_bl fun σ H Q h => ev_c h fun _ _ => .bl i⟩
theorem ev_non {j} : Ev g (.Constant .none j pos) ρ B .non B := ⟨fun X hX => PE.imp pe_non fun σ H Q h => ev_c h fun _ _ => .non⟩
theorem ev_str {s j} : Ev g (.Constant (.str s) j pos) ρ B (.str s) B := ⟨fun X hX => PE.imp pe_str fun σ H Q h => ev_c h fun _ _ => .str s⟩
/-- a built-in's name as a value -/
theorem ev_bltn {n : Str} {v : V} {u : Value} (hg : g.sc.names.lookup n = some .globalImplicit) (hm : g.T.mg n = none) (hv : bootBuiltins n = some u) (r : RelV v u) (hn : n ≠ "__name__" := by decide) (hd : (n == ("__debug__" : Str)) = false := by decide) : Ev g (.Name n pos) ρ B (.val v) B :=
  ⟨fun X hX => PE.imp (pe_bltn (X := X) (show X.env.scope.names.lookup n = _ by rw [hX.hs]; exact hg) (by rw [hX.hm]; exact hm) hv r hn hd) fun σ H Q h => ev_c h fun _ _ => .val v⟩
/-- a module's constant -/
theorem ev_glob {n : Str} {u : Value} (hg : g.sc.names.lookup n = some .globalImplicit) (hm : g.T.mg n = some u) {v : V} (r : RelV v u) (hx : ∀ β F, Rep g.T.K β F x v) (hd : (n == ("__debug__" : Str)) = false := by decide) : Ev g (.Name n pos) ρ B x B :=
  ⟨fun X hX => PE.imp (pe_glob (X := X) (show X.env.scope.names.lookup n = _ by rw [hX.hs]; exact hg) (by rw [hX.hm]; exact hm) r hd) fun σ H Q h => ev_c h hx⟩
theorem ev_globI {n : Str} {i : Int} {t : Tok} (hg : g.sc.names.lookup n = some .globalImplicit) (hm : g.T.mg n = some (.int i t)) (hd : (n == ("__debug__" : Str)) = false := by decide) : Ev g (.Name n pos) ρ B (.int i) B :=
  ev_glob hg hm (v := .int i) ⟨t, rfl⟩ (fun _ _ => .int i) hd
theorem ev_str' {s j} : Ev g (.Constant (.str s) j pos) ρ B (.str s) B := ev_str

/-! ### operators -/
/-- f on data -/
def BinD (g : G) (f : Value → Value → Sem Value) (x y : D) (z : Res) : Prop :=
  ∀ X, At g X → ∃ r : R2, OpR X f r ∧ ∀ (c : C0) (ρ : Rho) (B : Bag) (σ : L2.St) (H F : Hp) (v w : V) (Q : VK), Rel g.T.K c ρ B σ H F → Rep g.T.K c.β F x v → Rep g.T.K c.β F y w →
    (∀ u H' F', Rel g.T.K c ρ B σ H' F' → Same F F' → ResOk g.T.K c H' F' z u → Apart ρ σ z u → Q u H') → r v w H Q
theorem binR {z : Res} {op : Operator} (ho : BinD g (binaryOp op) x y z) (ha : Ev g a ρ B x B1) (hb : Ev g b ρ B1 y B2) : EvR g (.BinOp a op b pos) ρ B z B2 :=
  ⟨fun X hX =>
    let ⟨r, o, h⟩ := ho X hX
    PE.imp (pe_op o (ha.h X hX) (hb.h X hX)) fun σ H Q ⟨c, F, R, q⟩ => two R fun v w H2 F2 R2 e2 h1 h2 => h c ρ B2 σ H2 F2 v w Q R2 h1 h2 fun u H' F' R' e' hu ap => q u H' F' R' (e2.trans e') hu ap⟩
theorem ev_bin {op : Operator} (ho : BinD g (binaryOp op) x y (.d z)) (ha : Ev g a ρ B x B1) (hb : Ev g b ρ B1 y B2) : Ev g (.BinOp a op b pos) ρ B z B2 := binR ho ha hb
/-- a comparison as a value, as a test -/
theorem ev_cmp {op : CmpOp} (ho : BinD g (compareOp op) x y (.d z)) (ha : Ev g a ρ B x B1) (hb : Ev g b ρ B1 y B2) (hm : behindInMarks op b = false := by rfl) : Ev g (.Compare a [op] [b] pos) ρ B z B2 :=
  ⟨fun X hX =>
    let ⟨r, o, h⟩ := ho X hX
    PE.imp (pe_cmpR o (ha.h X hX) (hb.h X hX) hm) fun σ H Q ⟨c, F, R, q⟩ => two R fun v w H2 F2 R2 e2 h1 h2 => h c ρ B2 σ H2 F2 v w Q R2 h1 h2 fun u H' F' R' e' hu ap => q u H' F' R' (e2.trans e') hu ap⟩
theorem ts_cmp {op : CmpOp} {k : Bool} (ho : BinD g (compareOp op) x y (.d (.bl k))) (ha : Ev g a ρ B x B1) (hb : Ev g b ρ B1 y B2) (hm : behindInMarks op b = false := by rfl) : Ts g (.Compare a [op] [b] pos) ρ B k B2 :=
  ⟨fun X hX =>
    let ⟨r, o, h⟩ := ho X hX
    PT.imp (pt_cmpR o (ha.h X hX) (hb.h X hX) hm) fun σ H Q ⟨c, F, R, q⟩ => two R fun v w H2 F2 R2 e2 h1 h2 => h c ρ B2 σ H2 F2 v w _ R2 h1 h2 fun u H' F' R' e' hu ap => by
      cases hu
      exact ⟨k, rfl, q H' F' R' (e2.trans e')⟩⟩
/-- a < b <= c -/
theorem ev_chain {e3 : Expr} {w : D} {op op' : CmpOp} {k k' : Bool} (ho : BinD g (compareOp op) x y (.d (.bl k))) (ho' : BinD g (compareOp op') y w (.d (.bl k'))) (ha : Ev g a ρ B x B1) (hb : Ev g b ρ B1 y B2) (hc : k = true → Ev g e3 ρ B2 w B3)
    (hk : k = false → B2 = B3) (hm : lastMarks [op, op'] [b, e3] = false := by with_unfolding_all rfl) : Ev g (.Compare a [op, op'] [b, e3] pos) ρ B (.bl (k && k')) B3 := by
  refine ⟨fun X hX => ?_⟩
  obtain ⟨r, o, h⟩ := ho X hX
  obtain ⟨r', o', h'⟩ := ho' X hX
  cases k with
  | true =>
    refine PE.imp (pe_chain o o' (ha.h X hX) (hb.h X hX) ((hc rfl).h X hX) hm) fun σ H Q ⟨c, F, R, q⟩ => two R fun v w H2 F2 R2 e2 h1 h2 => h c ρ B2 σ H2 F2 v w _ R2 h1 h2 fun u H' F' R' e' hu ap => ?_
    cases hu
    refine ⟨true, rfl, iteT ⟨c, F', R', fun w3 H3 F3 R3 e3 h3 _ => ?_⟩⟩
    exact h' c ρ B3 σ H3 F3 w w3 Q R3 (Rep.mono (e'.trans e3) h2) h3 fun u H' F' R' e4 hu ap => q u H' F' R' (((e2.trans e').trans e3).trans e4) (by rw [Bool.true_and]; exact hu) apart_d
  | false =>
    refine PE.imp (pe_chain o o' (ha.h X hX) (hb.h X hX) (tc := fun _ _ _ => False) ⟨fun _ _ _ _ _ _ z => z.elim⟩ hm) fun σ H Q ⟨c, F, R, q⟩ => two R fun v w H2 F2 R2 e2 h1 h2 => h c ρ B2 σ H2 F2 v w _ R2 h1 h2 fun u H' F' R' e' hu ap => ?_
    cases hu
    refine ⟨false, rfl, iteF ?_⟩
    rw [← hk rfl] at q
    exact q _ H' F' R' (e2.trans e') (.bl _) apart_d
/-- an expression whose value is a bool, as a test -/
theorem ts_val {k : Bool} (h : Ev g e ρ B (.bl k) B1) (he : ∀ (env : Env) whole, isTrue e env whole = (do let v ← whole; standAt e.pos; holding [v] (truthy v)) := by intro _ _; rfl) : Ts g e ρ B k B1 :=
  ⟨fun X hX => PT.imp (pt_val (h.h X hX) (he X.env)) fun σ H Q ⟨c, F, R, q⟩ => ⟨c, F, R, fun v H' F' R' e' hu _ => by
    cases hu
    exact ⟨k, rfl, q H' F' R' e'⟩⟩⟩
theorem ts_chain {e3 : Expr} {w : D} {op op' : CmpOp} {k k' : Bool} (ho : BinD g (compareOp op) x y (.d (.bl k))) (ho' : BinD g (compareOp op') y w (.d (.bl k'))) (ha : Ev g a ρ B x B1) (hb : Ev g b ρ B1 y B2) (hc : k = true → Ev g e3 ρ B2 w B3)
    (hk : k = false → B2 = B3) (hm : lastMarks [op, op'] [b, e3] = false := by with_unfolding_all rfl) : Ts g (.Compare a [op, op'] [b, e3] pos) ρ B (k && k') B3 := by
  refine ⟨fun X hX => ?_⟩
  obtain ⟨r, o, h⟩ := ho X hX
  obtain ⟨r', o', h'⟩ := ho' X hX
  cases k with
  | true =>
    refine PT.imp (pt_chain o o' (ha.h X hX) (hb.h X hX) ((hc rfl).h X hX) hm) fun σ H Q ⟨c, F, R, q⟩ => two R fun v w H2 F2 R2 e2 h1 h2 => h c ρ B2 σ H2 F2 v w _ R2 h1 h2 fun u H' F' R' e' hu ap => ?_
    cases hu
    refine ⟨true, rfl, iteT ⟨c, F', R', fun w3 H3 F3 R3 e3 h3 _ => ?_⟩⟩
    exact h' c ρ B3 σ H3 F3 w w3 _ R3 (Rep.mono (e'.trans e3) h2) h3 fun u H' F' R' e4 hu ap => by
      cases hu
      exact ⟨k', rfl, q H' F' R' (((e2.trans e').trans e3).trans e4)⟩
  | false =>
    refine PT.imp (pt_chain o o' (ha.h X hX) (hb.h X hX) (tc := fun _ _ _ => False) ⟨fun _ _ _ _ _ _ z => z.elim⟩ hm) fun σ H Q ⟨c, F, R, q⟩ => two R fun v w H2 F2 R2 e2 h1 h2 => h c ρ B2 σ H2 F2 v w _ R2 h1 h2 fun u H' F' R' e' hu ap => ?_
    cases hu
    refine ⟨false, rfl, iteF ?_⟩
    rw [← hk rfl] at q
    exact ⟨false, rfl, q H' F' R' (e2.trans e')⟩

/-! the operators on ints -/
theorem binD_v {f : Value → Value → Sem Value} {r : ∀ X : Cx, R2} (ho : ∀ X, At g X → OpR X f (r X)) (v w u : V) (hx : ∀ K β F v', Rep K β F x v' → v' = v) (hy : ∀ K β F w', Rep K β F y w' → w' = w) (hz : ∀ K β F, Rep K β F z u)
    (hr : ∀ X H Q, At g X → Q u H → r X v w H Q) : BinD g f x y (.d z) := fun X hX => ⟨r X, ho X hX, fun c ρ B σ H F v' w' Q R h1 h2 q => by
  rw [hx _ _ _ _ h1, hy _ _ _ _ h2]
  exact hr X H Q hX (q u H F R (Same.refl F) (hz _ _ _) apart_d)⟩
theorem inv_int {i : Int} : ∀ K β F v', Rep K β F (.int i) v' → v' = .int i := fun _ _ _ _ h => by cases h; rfl
theorem inv_bl {i : Bool} : ∀ K β F v', Rep K β F (.bl i) v' → v' = .bl i := fun _ _ _ _ h => by cases h; rfl
theorem inv_str {i : Str} : ∀ K β F v', Rep K β F (.str i) v' → v' = .str i := fun _ _ _ _ h => by cases h; rfl
theorem inv_non : ∀ K β F v', Rep K β F .non v' → v' = .non := fun _ _ _ _ h => by cases h; rfl
theorem inv_val {v : V} : ∀ K β F v', Rep K β F (.val v) v' → v' = v := fun _ _ _ _ h => by cases h; rfl
variable {i j : Int}
theorem b_add : BinD g (binaryOp .Add) (.int i) (.int j) (.d (.int (i + j))) := binD_v (fun X _ => op_add (X := X)) _ _ (.int (i + j)) inv_int inv_int (fun _ _ _ => .int _) fun X H Q _ q => ⟨i, j, rfl, rfl, q⟩
theorem b_sub : BinD g (binaryOp .Sub) (.int i) (.int j) (.d (.int (i - j))) := binD_v (fun X _ => op_sub (X := X)) _ _ (.int (i - j)) inv_int inv_int (fun _ _ _ => .int _) fun X H Q _ q => ⟨i, j, rfl, rfl, q⟩
theorem b_mul (h : CMul i j) : BinD g (binaryOp .Mult) (.int i) (.int j) (.d (.int (i * j))) := binD_v (fun X _ => op_mul (X := X)) _ _ (.int (i * j)) inv_int inv_int (fun _ _ _ => .int _) fun X H Q _ q => ⟨i, j, rfl, rfl, h, q⟩
theorem b_fdiv (h : CDiv i j) : BinD g (binaryOp .FloorDiv) (.int i) (.int j) (.d (.int (i / j))) := binD_v (fun X _ => op_fdiv (X := X)) _ _ (.int (i / j)) inv_int inv_int (fun _ _ _ => .int _) fun X H Q _ q => ⟨i, j, rfl, rfl, h, q⟩
theorem b_mod (h : 0 < j) : BinD g (binaryOp .Mod) (.int i) (.int j) (.d (.int (i % j))) := binD_v (fun X _ => op_mod (X := X)) _ _ (.int (i % j)) inv_int inv_int (fun _ _ _ => .int _) fun X H Q _ q => ⟨i, j, rfl, rfl, h, q⟩
theorem b_pow (h : CPow i j) : BinD g (binaryOp .Pow) (.int i) (.int j) (.d (.int (i ^ j.toNat))) := binD_v (fun X _ => op_pow (X := X)) _ _ (.int (i ^ j.toNat)) inv_int inv_int (fun _ _ _ => .int _) fun X H Q _ q => ⟨i, j, rfl, rfl, h, q⟩
theorem c_lt : BinD g (compareOp .Lt) (.int i) (.int j) (.d (.bl (decide (i < j)))) := binD_v (fun X _ => op_lt (X := X)) _ _ (.bl _) inv_int inv_int (fun _ _ _ => .bl _) fun X H Q _ q => ⟨i, j, rfl, rfl, q⟩
theorem c_le : BinD g (compareOp .LtE) (.int i) (.int j) (.d (.bl (decide (i ≤ j)))) := binD_v (fun X _ => op_le (X := X)) _ _ (.bl _) inv_int inv_int (fun _ _ _ => .bl _) fun X H Q _ q => ⟨i, j, rfl, rfl, q⟩
theorem c_gt : BinD g (compareOp .Gt) (.int i) (.int j) (.d (.bl (decide (j < i)))) := binD_v (fun X _ => op_gt (X := X)) _ _ (.bl _) inv_int inv_int (fun _ _ _ => .bl _) fun X H Q _ q => ⟨i, j, rfl, rfl, q⟩
theorem c_ge : BinD g (compareOp .GtE) (.int i) (.int j) (.d (.bl (decide (j ≤ i)))) := binD_v (fun X _ => op_ge (X := X)) _ _ (.bl _) inv_int inv_int (fun _ _ _ => .bl _) fun X H Q _ q => ⟨i, j, rfl, rfl, q⟩
theorem c_eqI : BinD g (compareOp .Eq) (.int i) (.int j) (.d (.bl (decide (i = j)))) := binD_v (fun X _ => op_eq (X := X)) _ _ (.bl _) inv_int inv_int (fun _ _ _ => .bl _) fun X H Q _ q => ⟨rfl, by rw [dec_int, Bool.beq_eq_decide_eq]; exact q⟩
theorem c_neI : BinD g (compareOp .NotEq) (.int i) (.int j) (.d (.bl (!decide (i = j)))) := binD_v (fun X _ => op_ne (X := X)) _ _ (.bl _) inv_int inv_int (fun _ _ _ => .bl _) fun X H Q _ q => ⟨rfl, by rw [dec_int, Bool.beq_eq_decide_eq]; exact q⟩
theorem c_eqS {s t : Str} : BinD g (compareOp .Eq) (.str s) (.str t) (.d (.bl (decide (s = t)))) := binD_v (fun X _ => op_eq (X := X)) _ _ (.bl _) inv_str inv_str (fun _ _ _ => .bl _) fun X H Q _ q => ⟨rfl, by
  rw [show decide (V.str s = V.str t) = decide (s = t) from decide_eq_decide.mpr ⟨fun h => V.str.inj h, fun h => by rw [h]⟩]; exact q⟩
theorem c_neS {s t : Str} : BinD g (compareOp .NotEq) (.str s) (.str t) (.d (.bl (!decide (s = t)))) := binD_v (fun X _ => op_ne (X := X)) _ _ (.bl _) inv_str inv_str (fun _ _ _ => .bl _) fun X H Q _ q => ⟨rfl, by
  rw [show decide (V.str s = V.str t) = decide (s = t) from decide_eq_decide.mpr ⟨fun h => V.str.inj h, fun h => by rw [h]⟩]; exact q⟩
theorem c_eqB {s t : Bool} : BinD g (compareOp .Eq) (.bl s) (.bl t) (.d (.bl (decide (s = t)))) := binD_v (fun X _ => op_eq (X := X)) _ _ (.bl _) inv_bl inv_bl (fun _ _ _ => .bl _) fun X H Q _ q => ⟨rfl, by
  rw [show decide (V.bl s = V.bl t) = decide (s = t) from decide_eq_decide.mpr ⟨fun h => V.bl.inj h, fun h => by rw [h]⟩]; exact q⟩
theorem c_neB {s t : Bool} : BinD g (compareOp .NotEq) (.bl s) (.bl t) (.d (.bl (!decide (s = t)))) := binD_v (fun X _ => op_ne (X := X)) _ _ (.bl _) inv_bl inv_bl (fun _ _ _ => .bl _) fun X H Q _ q => ⟨rfl, by
  rw [show decide (V.bl s = V.bl t) = decide (s = t) from decide_eq_decide.mpr ⟨fun h => V.bl.inj h, fun h => by rw [h]⟩]; exact q⟩
def D.isNon : D → Bool
  | .non => true
  | .val .non => true
  | _ => false
theorem Rep.isNon {K : PySem.W.Frag} {β : Option Addr} {F : Hp} {x : D} {v : V} (h : Rep K β F x v) : decide (v = .non) = x.isNon := by
  cases h with
  | val v => cases v <;> first | rfl | simp [D.isNon]
  | _ => first | rfl | simp [D.isNon]
theorem c_isN : BinD g (compareOp .Is) x .non (.d (.bl x.isNon)) := fun X hX => ⟨_, op_isN (X := X), fun c ρ B σ H F v w Q R h1 h2 q => by
  cases h2
  exact ⟨rfl, q _ H F R (Same.refl F) (by rw [h1.isNon]; exact .bl _) apart_d⟩⟩
theorem c_notN : BinD g (compareOp .IsNot) x .non (.d (.bl (!x.isNon))) := fun X hX => ⟨_, op_notN (X := X), fun c ρ B σ H F v w Q R h1 h2 q => by
  cases h2
  exact ⟨rfl, q _ H F R (Same.refl F) (by rw [h1.isNon]; exact .bl _) apart_d⟩⟩
theorem ev_neg (ha : Ev g a ρ B (.int i) B1) : Ev g (.UnaryOp .USub a pos) ρ B (.int (-i)) B1 :=
  ⟨fun X hX => PE.imp (pe_un un_neg (ha.h X hX)) fun σ H Q ⟨c, F, R, q⟩ => ⟨c, F, R, fun v H1 F1 R1 e1 h1 _ => by
    cases h1
    exact ⟨i, rfl, q _ H1 F1 R1 e1 (.int _) apart_d⟩⟩⟩

/-! ### and, or, not -/
variable {k k' : Bool} {rest : List Expr}
theorem ev_not (ha : Ev g a ρ B (.bl k) B1) : Ev g (.UnaryOp .Not a pos) ρ B (.bl (!k)) B1 :=
  ⟨fun X hX => PE.imp (pe_not (ha.h X hX)) fun σ H Q ⟨c, F, R, q⟩ => ⟨c, F, R, fun v H1 F1 R1 e1 h1 _ => by
    cases h1
    exact ⟨k, rfl, q _ H1 F1 R1 e1 (.bl _) apart_d⟩⟩⟩
theorem ts_not (ha : Ts g a ρ B k B1) : Ts g (.UnaryOp .Not a pos) ρ B (!k) B1 :=
  ⟨fun X hX => PT.imp (pt_not (ha.h X hX)) fun σ H Q ⟨c, F, R, q⟩ => ⟨c, F, R, fun H1 F1 R1 e1 => q H1 F1 R1 e1⟩⟩
theorem ev_one {op} (ha : Ev g a ρ B x B1) : Ev g (.BoolOp op [a] pos) ρ B x B1 := ⟨fun X hX => pe_one (ha.h X hX)⟩
theorem ev_and (ha : Ev g a ρ B (.bl k) B1) (hb : k = true → Ev g (.BoolOp .And (b :: rest) pos) ρ B1 (.bl k') B2) (hk : k = false → B1 = B2) : Ev g (.BoolOp .And (a :: b :: rest) pos) ρ B (.bl (k && k')) B2 := by
  refine ⟨fun X hX => ?_⟩
  cases k with
  | true => exact PE.imp (pe_and (ha.h X hX) ((hb rfl).h X hX)) fun σ H Q ⟨c, F, R, q⟩ => ⟨c, F, R, fun v H1 F1 R1 e1 h1 _ => by
      cases h1
      exact ⟨true, rfl, iteT ⟨c, F1, R1, fun v H2 F2 R2 e2 h2 _ => q v H2 F2 R2 (e1.trans e2) (by rw [Bool.true_and]; exact h2) apart_d⟩⟩⟩
  | false =>
    cases hk rfl
    exact PE.imp (pe_and (ha.h X hX) (tb := fun _ _ _ => False) ⟨fun _ _ _ _ _ _ z => z.elim⟩) fun σ H Q ⟨c, F, R, q⟩ => ⟨c, F, R, fun v H1 F1 R1 e1 h1 _ => by
      cases h1
      exact ⟨false, rfl, iteF (q _ H1 F1 R1 e1 (.bl _) apart_d)⟩⟩
theorem ev_or (ha : Ev g a ρ B (.bl k) B1) (hb : k = false → Ev g (.BoolOp .Or (b :: rest) pos) ρ B1 (.bl k') B2) (hk : k = true → B1 = B2) : Ev g (.BoolOp .Or (a :: b :: rest) pos) ρ B (.bl (k || k')) B2 := by
  refine ⟨fun X hX => ?_⟩
  cases k with
  | false => exact PE.imp (pe_or (ha.h X hX) ((hb rfl).h X hX)) fun σ H Q ⟨c, F, R, q⟩ => ⟨c, F, R, fun v H1 F1 R1 e1 h1 _ => by
      cases h1
      exact ⟨false, rfl, iteF ⟨c, F1, R1, fun v H2 F2 R2 e2 h2 _ => q v H2 F2 R2 (e1.trans e2) (by rw [Bool.false_or]; exact h2) apart_d⟩⟩⟩
  | true =>
    cases hk rfl
    exact PE.imp (pe_or (ha.h X hX) (tb := fun _ _ _ => False) ⟨fun _ _ _ _ _ _ z => z.elim⟩) fun σ H Q ⟨c, F, R, q⟩ => ⟨c, F, R, fun v H1 F1 R1 e1 h1 _ => by
      cases h1
      exact ⟨true, rfl, iteT (q _ H1 F1 R1 e1 (.bl _) apart_d)⟩⟩
/-- a chain of and, or as a test -/
structure Tw (g : G) (e : Expr) (ρ : Rho) (B : Bag) (b : Bool) (B' : Bag) : Prop where
  h : ∀ X, At g X → PW X e (tTs g.T.K ρ B b B')
theorem Tw.ts (h : Tw g e ρ B k B1) : Ts g e ρ B k B1 := ⟨fun X hX => (h.h X hX).pt⟩
theorem tw_and1 (ha : Ts g a ρ B k B1) : Tw g (.BoolOp .And [a] pos) ρ B k B1 := ⟨fun X hX => pw_and1 (ha.h X hX)⟩
theorem tw_or1 (ha : Ts g a ρ B k B1) : Tw g (.BoolOp .Or [a] pos) ρ B k B1 := ⟨fun X hX => pw_or1 (ha.h X hX)⟩
theorem tw_and (ha : Ts g a ρ B k B1) (hb : k = true → Tw g (.BoolOp .And (b :: rest) pos) ρ B1 k' B2) (hk : k = false → B1 = B2) : Tw g (.BoolOp .And (a :: b :: rest) pos) ρ B (k && k') B2 := by
  refine ⟨fun X hX => ?_⟩
  have imp : ∀ {t t' : TT}, PW X (.BoolOp .And (a :: b :: rest) pos) t → (∀ σ H Q, t' σ H Q → t σ H Q) → PW X (.BoolOp .And (a :: b :: rest) pos) t' := fun h w => ⟨fun wh pins s σ H Q I q => h.run wh pins s σ H Q I (w σ H Q q)⟩
  cases k with
  | true => exact imp (pw_and (ha.h X hX) ((hb rfl).h X hX)) fun σ H Q ⟨c, F, R, q⟩ => ⟨c, F, R, fun H1 F1 R1 e1 => iteT ⟨c, F1, R1, fun H2 F2 R2 e2 => by
      have := q H2 F2 R2 (e1.trans e2)
      rw [Bool.true_and] at this
      exact this⟩⟩
  | false =>
    cases hk rfl
    exact imp (pw_and (ha.h X hX) (tB' := fun _ _ _ => False) ⟨fun _ _ _ _ _ _ _ z => z.elim⟩) fun σ H Q ⟨c, F, R, q⟩ => ⟨c, F, R, fun H1 F1 R1 e1 => iteF (q H1 F1 R1 e1)⟩
theorem tw_or (ha : Ts g a ρ B k B1) (hb : k = false → Tw g (.BoolOp .Or (b :: rest) pos) ρ B1 k' B2) (hk : k = true → B1 = B2) : Tw g (.BoolOp .Or (a :: b :: rest) pos) ρ B (k || k') B2 := by
  refine ⟨fun X hX => ?_⟩
  have imp : ∀ {t t' : TT}, PW X (.BoolOp .Or (a :: b :: rest) pos) t → (∀ σ H Q, t' σ H Q → t σ H Q) → PW X (.BoolOp .Or (a :: b :: rest) pos) t' := fun h w => ⟨fun wh pins s σ H Q I q => h.run wh pins s σ H Q I (w σ H Q q)⟩
  cases k with
  | false => exact imp (pw_or (ha.h X hX) ((hb rfl).h X hX)) fun σ H Q ⟨c, F, R, q⟩ => ⟨c, F, R, fun H1 F1 R1 e1 => iteF ⟨c, F1, R1, fun H2 F2 R2 e2 => by
      have := q H2 F2 R2 (e1.trans e2)
      rw [Bool.false_or] at this
      exact this⟩⟩
  | true =>
    cases hk rfl
    exact imp (pw_or (ha.h X hX) (tB' := fun _ _ _ => False) ⟨fun _ _ _ _ _ _ _ z => z.elim⟩) fun σ H Q ⟨c, F, R, q⟩ => ⟨c, F, R, fun H1 F1 R1 e1 => iteT (q H1 F1 R1 e1)⟩
/-- a if t else b -/
theorem ev_if {t : Expr} {z : Res} (ht : Ts g t ρ B k B1) (ha : k = true → EvR g a ρ B1 z B2) (hb : k = false → EvR g b ρ B1 z B2) : EvR g (.IfExp t a b pos) ρ B z B2 := by
  refine ⟨fun X hX => ?_⟩
  cases k with
  | true => exact PE.imp (pe_ifExp (ht.h X hX) ((ha rfl).h X hX) (tb := fun _ _ _ => False) ⟨fun _ _ _ _ _ _ z => z.elim⟩) fun σ H Q ⟨c, F, R, q⟩ => ⟨c, F, R, fun H1 F1 R1 e1 => iteT ⟨c, F1, R1, fun v H2 F2 R2 e2 h2 ap => q v H2 F2 R2 (e1.trans e2) h2 ap⟩⟩
  | false => exact PE.imp (pe_ifExp (ht.h X hX) (ta := fun _ _ _ => False) ⟨fun _ _ _ _ _ _ z => z.elim⟩ ((hb rfl).h X hX)) fun σ H Q ⟨c, F, R, q⟩ => ⟨c, F, R, fun H1 F1 R1 e1 => iteF ⟨c, F1, R1, fun v H2 F2 R2 e2 h2 ap => q v H2 F2 R2 (e1.trans e2) h2 ap⟩⟩

/-! ### argument lists, displays -/
theorem evs_nil : Evs g [] ρ B [] B := ⟨fun X hX => PA.imp pa_nil fun σ H Q ⟨c, F, R, q⟩ => q [] H F R (Same.refl F) .nil⟩
theorem evs_cons {es : List Expr} {ds : List D} (ha : Ev g e ρ B x B1) (hr : Evs g es ρ B1 ds B2) (hs : ∀ env : Env, starEach (e :: es) env = (false, eval e env) :: starEach es env := by intro _; rfl) : Evs g (e :: es) ρ B (x :: ds) B2 :=
  ⟨fun X hX => PA.imp (pa_cons (ha.h X hX) (hr.h X hX) (hs X.env)) fun σ H Q ⟨c, F, R, q⟩ => ⟨c, F, R, fun v H1 F1 R1 e1 h1 _ => ⟨c, F1, R1, fun vs H2 F2 R2 e2 h2 => q (v :: vs) H2 F2 R2 (e1.trans e2) (.cons (Rep.mono e2 h1) h2)⟩⟩⟩
theorem ev_tup {es : List Expr} {ds : List D} {j} (h : Evs g es ρ B ds B1) (hl : ds.length ≤ 1000 := by first | decide | simp) : Ev g (.Tuple es j pos) ρ B (.tup ds) B1 :=
  ⟨fun X hX => PE.imp (pe_tup (h.h X hX)) fun σ H Q ⟨c, F, R, q⟩ => ⟨c, F, R, fun vs H1 F1 R1 e1 h1 => by
    have l1 : vs.length ≤ sizeLine := by rw [← h1.length]; exact Nat.le_of_lt (small1000 hl)
    refine ⟨l1, fun p np => ?_⟩
    obtain ⟨R2, e2⟩ := R1.new (o := .tup vs) np
    exact q _ _ _ R2 (e1.trans e2) (.tup (.inl (.inl upd_same)) l1 (h1.mono e2)) apart_d⟩⟩
theorem OwnAt.new' {K : PySem.W.Frag} {c : C0} {σ : L2.St} {H F : Hp} {p : Addr} {ct : Ct} {ho : HO} (R : Rel K c ρ B σ H F) (np : H p = none) (h : CtOk K c.β F ct ho) : OwnAt K c (upd H p ho) F p ct := ⟨⟨ho, upd_same, h⟩, R.H0_none np, R.F_none np⟩
theorem Rel.apart {K : PySem.W.Frag} {c : C0} {σ : L2.St} {H F : Hp} {p : Addr} {r : Res} (R : Rel K c ρ B σ H F) (np : H p = none) : Apart ρ σ r (.ref p) := fun _ _ i ct q h1 h2 z => by
  obtain ⟨q', h3, ⟨ho, h4, _⟩, _⟩ := R.own i ct h1
  rw [h2] at h3
  cases h3
  cases z
  rw [np] at h4
  cases h4
theorem evr_lst {es : List Expr} {ds : List D} (h : Evs g es ρ B ds B1) (hl : ds.length ≤ 1000 := by first | decide | simp) : EvR g (.List es pos) ρ B (.o (.l ds)) B1 :=
  ⟨fun X hX => PE.imp (pe_lst (h.h X hX)) fun σ H Q ⟨c, F, R, q⟩ => ⟨c, F, R, fun vs H1 F1 R1 e1 h1 => by
    have l1 : vs.length ≤ sizeLine := by rw [← h1.length]; exact Nat.le_of_lt (small1000 hl)
    refine ⟨l1, fun p np => ?_⟩
    exact q _ _ _ (R1.newO np) e1 ⟨p, rfl, OwnAt.new' R1 np ⟨vs, rfl, l1, h1⟩⟩ (R1.apart np)⟩⟩
/-- a new own thing as data -/
theorem EvR.fz {ct : Ct} (h : EvR g e ρ B (.o ct) B1) : Ev g e ρ B ct.d B1 :=
  ⟨fun X hX => PE.imp (h.h X hX) fun σ H Q ⟨c, F, R, q⟩ => ⟨c, F, R, fun v H1 F1 R1 e1 ⟨p, hv, ⟨ho, h1, h2⟩, n0, nF⟩ ap => by
    subst hv
    obtain ⟨R2, e2⟩ := R1.freeze h1 n0 nF fun i ct' hi hs => ap _ rfl i ct' p hi hs rfl
    exact q _ _ _ R2 (e1.trans e2) ((h2.mono e2).rep upd_same) apart_d⟩⟩
theorem ev_lst {es : List Expr} {ds : List D} (h : Evs g es ρ B ds B1) (hl : ds.length ≤ 1000 := by first | decide | simp) : Ev g (.List es pos) ρ B (.lst ds) B1 := (evr_lst h hl).fz
end
end PD
namespace PD
open PySem PySem.Spec PyProof.Rows L2

section
variable {g : G} {ρ : Rho} {B B1 B2 B3 : Bag} {a b e : Expr} {pos p : Pos} {x y z d : D} {es : List Expr} {ds : List D} {n : Str}

abbrev Glb (g : G) (n : Str) : Prop := g.sc.names.lookup n = some .globalImplicit
theorem Glb.at {X : Cx} (h : Glb g n) (hX : At g X) : Gl X n := by
  show X.env.scope.names.lookup n = _
  rw [hX.hs]; exact h

/-! ### calls of built-ins -/
def CallD (g : G) (f : Value) (ds : List D) (z : Res) : Prop :=
  ∀ X, At g X → ∃ r : List V → Hp → VK → Prop, CallR X f r ∧ ∀ (c : C0) (ρ : Rho) (B : Bag) (σ : L2.St) (H F : Hp) (vs : List V) (Q : VK), Rel g.T.K c ρ B σ H F → RepAll g.T.K c.β F ds vs →
    (∀ u H' F', Rel g.T.K c ρ B σ H' F' → Same F F' → ResOk g.T.K c H' F' z u → Apart ρ σ z u → Q u H') → r vs H Q
theorem ev_callB {z : Res} {id : String} (hc : CallD g (.builtin id) ds z) (hg : Glb g n) (hm : g.T.mg n = none) (hv : bootBuiltins n = some (.builtin id)) (ha : Evs g (e :: es) ρ B ds B1) (hn : n ≠ "__name__" := by decide) (hdb : (n == ("__debug__" : Str)) = false := by decide)
    (he : ∀ env : Env, starEach (e :: es) env = (false, eval e env) :: starEach es env := by intro _; rfl) (hpl : ∀ env : Env, (backTo pos (starEach es env)).any (·.1) = false := by intro _; rfl) : EvR g (.Call (.Name n p) (e :: es) [] pos) ρ B z B1 :=
  ⟨fun X hX =>
    let ⟨r, cr, h⟩ := hc X hX
    PE.imp (pe_callB cr (hg.at hX) (by rw [hX.hm]; exact hm) hv (ha.h X hX) hn hdb (he X.env) (hpl X.env)) fun σ H Q ⟨c, F, R, q⟩ => ⟨c, F, R, fun vs H1 F1 R1 e1 h1 => h c ρ B1 σ H1 F1 vs Q R1 h1 fun u H' F' R' e' hu ap => q u H' F' R' (e1.trans e') hu ap⟩⟩
theorem ev_callTy {z : Res} {id : String} (hc : CallD g (.type id) ds z) (hg : Glb g n) (hm : g.T.mg n = none) (hv : bootBuiltins n = some (.type id)) (ha : Evs g (e :: es) ρ B ds B1) (hn : n ≠ "__name__" := by decide) (hdb : (n == ("__debug__" : Str)) = false := by decide)
    (he : ∀ env : Env, starEach (e :: es) env = (false, eval e env) :: starEach es env := by intro _; rfl) (hpl : ∀ env : Env, (backTo pos (starEach es env)).any (·.1) = false := by intro _; rfl) : EvR g (.Call (.Name n p) (e :: es) [] pos) ρ B z B1 :=
  ⟨fun X hX =>
    let ⟨r, cr, h⟩ := hc X hX
    PE.imp (pe_callTy cr (hg.at hX) (by rw [hX.hm]; exact hm) hv (ha.h X hX) hn hdb (he X.env) (hpl X.env)) fun σ H Q ⟨c, F, R, q⟩ => ⟨c, F, R, fun vs H1 F1 R1 e1 h1 => h c ρ B1 σ H1 F1 vs Q R1 h1 fun u H' F' R' e' hu ap => q u H' F' R' (e1.trans e') hu ap⟩⟩

/-- a list or a tuple as data -/
def D.seq : D → Option (List D)
  | .tup ds => some ds
  | .lst ds => some ds
  | _ => none
theorem SqL.sub {K : PySem.W.Frag} {F H : Hp} {a : Addr} {xs : List V} (s : Same F H) (h : F a = some (.lst xs)) : SqL K H a xs := .inl (.inl (s _ _ h))
theorem Rep.seq {K : PySem.W.Frag} {β : Option Addr} {F H : Hp} {x : D} {ds : List D} {v : V} (s : Same F H) (h : Rep K β F x v) (hx : x.seq = some ds) : ∃ a vs, v = .ref a ∧ (SqL K H a vs ∨ SqT K H a vs) ∧ vs.length ≤ sizeLine ∧ RepAll K β F ds vs := by
  cases h with
  | tup h1 h2 h3 => cases hx; exact ⟨_, _, rfl, .inr (Same.seqT s h1), h2, h3⟩
  | lst h1 h2 h3 => cases hx; exact ⟨_, _, rfl, .inl (SqL.sub s h1), h2, h3⟩
  | _ => cases hx
theorem all1 {K : PySem.W.Frag} {β : Option Addr} {F : Hp} {x : D} {vs : List V} (h : RepAll K β F [x] vs) : ∃ v, vs = [v] ∧ Rep K β F x v := by
  cases h with
  | cons h t => cases t; exact ⟨_, rfl, h⟩
theorem all2 {K : PySem.W.Frag} {β : Option Addr} {F : Hp} {x y : D} {vs : List V} (h : RepAll K β F [x, y] vs) : ∃ v w, vs = [v, w] ∧ Rep K β F x v ∧ Rep K β F y w := by
  cases h with
  | cons h t =>
    obtain ⟨w, rfl, h2⟩ := all1 t
    exact ⟨_, _, rfl, h, h2⟩
theorem k_len (h : x.seq = some ds) : CallD g (.builtin "len") [x] (.d (.int ds.length)) := fun X hX => ⟨_, call_len_seq (X := X), fun c ρ B σ H F vs Q R hvs q => by
  obtain ⟨v, rfl, h1⟩ := all1 hvs
  obtain ⟨a, ws, rfl, hs, _, hr⟩ := h1.seq R.sub h
  refine ⟨a, ws, rfl, by rw [hX.hK]; exact hs, ?_⟩
  rw [← hr.length]
  exact q _ H F R (Same.refl F) (.int _) apart_d⟩
theorem k_all {bs : List Bool} : CallD g (.builtin "all") [.lst (bs.map .bl)] (.d (.bl (bs.all id))) := fun X hX => ⟨_, cr_all hX.calm, fun c ρ B σ H F vs Q R hvs q => by
  obtain ⟨v, rfl, h1⟩ := all1 hvs
  cases h1 with
  | lst h1 h2 h3 =>
    cases h3.bls
    exact ⟨_, bs, rfl, SqL.sub R.sub h1, q _ H F R (Same.refl F) (.bl _) apart_d⟩⟩
theorem k_any {bs : List Bool} : CallD g (.builtin "any") [.lst (bs.map .bl)] (.d (.bl (bs.any id))) := fun X hX => ⟨_, cr_any hX.calm, fun c ρ B σ H F vs Q R hvs q => by
  obtain ⟨v, rfl, h1⟩ := all1 hvs
  cases h1 with
  | lst h1 h2 h3 =>
    cases h3.bls
    exact ⟨_, bs, rfl, SqL.sub R.sub h1, q _ H F R (Same.refl F) (.bl _) apart_d⟩⟩
theorem k_sum {ns : List Int} : CallD g (.builtin "sum") [.lst (ns.map .int)] (.d (.int ns.sum)) := fun X hX => ⟨_, cr_sum hX.calm, fun c ρ B σ H F vs Q R hvs q => by
  obtain ⟨v, rfl, h1⟩ := all1 hvs
  cases h1 with
  | lst h1 h2 h3 =>
    cases h3.ints
    exact ⟨_, ns, rfl, SqL.sub R.sub h1, q _ H F R (Same.refl F) (.int _) apart_d⟩⟩
/-- the greatest, the least of a list of ints -/
def maxL (ns : List Int) : Int := ns.max?.getD 0
def minL (ns : List Int) : Int := ns.min?.getD 0
theorem maxL_eq {ns : List Int} {m : Int} (h1 : m ∈ ns) (h2 : ∀ y, y ∈ ns → y ≤ m) : m = maxL ns := by
  unfold maxL
  rw [List.max?_eq_some_iff.mpr ⟨h1, h2⟩]
  rfl
theorem minL_eq {ns : List Int} {m : Int} (h1 : m ∈ ns) (h2 : ∀ y, y ∈ ns → m ≤ y) : m = minL ns := by
  unfold minL
  rw [List.min?_eq_some_iff.mpr ⟨h1, h2⟩]
  rfl
theorem k_max {ns : List Int} (hn : ns ≠ []) : CallD g (.builtin "max") [.lst (ns.map .int)] (.d (.int (maxL ns))) := fun X hX => ⟨_, cr_max hX.calm, fun c ρ B σ H F vs Q R hvs q => by
  obtain ⟨v, rfl, h1⟩ := all1 hvs
  cases h1 with
  | lst h1 h2 h3 =>
    cases h3.ints
    exact ⟨_, ns, rfl, SqL.sub R.sub h1, List.length_pos_iff.mpr hn, fun m hm hle => by rw [maxL_eq hm hle]; exact q _ H F R (Same.refl F) (.int _) apart_d⟩⟩
theorem k_min {ns : List Int} (hn : ns ≠ []) : CallD g (.builtin "min") [.lst (ns.map .int)] (.d (.int (minL ns))) := fun X hX => ⟨_, cr_min hX.calm, fun c ρ B σ H F vs Q R hvs q => by
  obtain ⟨v, rfl, h1⟩ := all1 hvs
  cases h1 with
  | lst h1 h2 h3 =>
    cases h3.ints
    exact ⟨_, ns, rfl, SqL.sub R.sub h1, List.length_pos_iff.mpr hn, fun m hm hle => by rw [minL_eq hm hle]; exact q _ H F R (Same.refl F) (.int _) apart_d⟩⟩
theorem k_min2 {i j : Int} : CallD g (.builtin "min") [.int i, .int j] (.d (.int (if j < i then j else i))) := fun X hX => ⟨_, call_min2 hX.calm, fun c ρ B σ H F vs Q R hvs q => by
  obtain ⟨v, w, rfl, h1, h2⟩ := all2 hvs
  cases h1
  cases h2
  exact ⟨i, j, rfl, q _ H F R (Same.refl F) (.int _) apart_d⟩⟩
/-- sorted ints -/
def sortL (ns : List Int) : List Int := ns.mergeSort (fun a b => decide (a ≤ b))
theorem sortL_eq {ns ms : List Int} (hp : ms.Perm ns) (hs : ms.Pairwise (· ≤ ·)) : ms = sortL ns := by
  have h1 : (sortL ns).Pairwise (· ≤ ·) := by
    have := List.pairwise_mergeSort (le := fun a b : Int => decide (a ≤ b)) (fun a b c h1 h2 => by simp only [decide_eq_true_eq] at *; omega) (fun a b => by simp only [Bool.or_eq_true, decide_eq_true_eq]; omega) ns
    exact this.imp fun h => of_decide_eq_true h
  have h2 : ms.Perm (sortL ns) := hp.trans (List.mergeSort_perm ns _).symm
  exact h2.eq_of_pairwise (fun a b _ _ hab hba => Int.le_antisymm hab hba) hs h1
theorem k_sortI {ns : List Int} : CallD g (.builtin "sorted") [.lst (ns.map .int)] (.o (.l ((sortL ns).map .int))) := fun X hX => ⟨_, cr_sortedI (X := X), fun c ρ B σ H F vs Q R hvs q => by
  obtain ⟨v, rfl, h1⟩ := all1 hvs
  cases h1 with
  | lst h1 h2 h3 =>
    cases h3.ints
    refine ⟨_, ns, rfl, SqL.sub R.sub h1, fun ns' p hp hs np => ?_⟩
    have hl : (ns'.map V.int).length ≤ sizeLine := by
      rw [List.length_map, hp.length_eq]
      rw [List.length_map] at h2
      exact h2
    cases sortL_eq hp hs
    exact q _ _ F (R.newO np) (Same.refl F) ⟨p, rfl, OwnAt.new' R np ⟨_, rfl, hl, RepAll.ofInts _⟩⟩ (R.apart np)⟩
theorem k_list (h : x.seq = some ds) : CallD g (.type "list") [x] (.o (.l ds)) := fun X hX => ⟨_, call_list_of (X := X), fun c ρ B σ H F vs Q R hvs q => by
  obtain ⟨v, rfl, h1⟩ := all1 hvs
  obtain ⟨a, ws, rfl, hs, hl, hr⟩ := h1.seq R.sub h
  exact ⟨a, ws, rfl, by rw [hX.hK]; exact hs, fun p np => q _ _ F (R.newO np) (Same.refl F) ⟨p, rfl, OwnAt.new' R np ⟨_, rfl, hl, hr⟩⟩ (R.apart np)⟩⟩
theorem k_tuple (h : x.seq = some ds) : CallD g (.type "tuple") [x] (.d (.tup ds)) := fun X hX => ⟨_, call_tuple_of (X := X), fun c ρ B σ H F vs Q R hvs q => by
  obtain ⟨v, rfl, h1⟩ := all1 hvs
  cases h1 with
  | tup h1 h2 h3 =>
    cases h
    exact ⟨_, _, rfl, .inr ⟨by rw [hX.hK]; exact Same.seqT R.sub h1, q _ H F R (Same.refl F) (.tup h1 h2 h3) apart_d⟩⟩
  | lst h1 h2 h3 =>
    cases h
    refine ⟨_, _, rfl, .inl ⟨SqL.sub R.sub h1, fun p np => ?_⟩⟩
    obtain ⟨R2, e2⟩ := R.new (o := .tup _) np
    exact q _ _ _ R2 e2 (.tup (.inl (.inl upd_same)) h2 (h3.mono e2)) apart_d
  | _ => cases h⟩

/-! ### isinstance -/
def D.ty : D → Option String
  | .non => some "NoneType"
  | .bl _ => some "bool"
  | .int _ => some "int"
  | .str _ => some "str"
  | .tup _ => some "tuple"
  | .lst _ => some "list"
  | .dct _ => some "dict"
  | .bag => some "list"
  | .val _ => none
  | .scr _ => none
  | .dtb .. => none
theorem Rep.ty {K : PySem.W.Frag} {c : C0} {B : Bag} {ρ : Rho} {σ : L2.St} {H F : Hp} {x : D} {v : V} {T : String} (R : Rel K c ρ B σ H F) (h : Rep K c.β F x v) (ht : x.ty = some T) : TyX K H v (.type T) := by
  cases h with
  | non => cases ht; exact .base .non
  | bl b => cases ht; exact .base (.bl b)
  | int b => cases ht; exact .base (.int b)
  | str b => cases ht; exact .base (.str b)
  | tup h1 h2 h3 =>
    cases ht
    rcases Same.seqT R.sub h1 with (h | ⟨o, h⟩) | ⟨o, its, n, h, hc, _⟩
    · exact .base (.tup h)
    · exact .fTuple h
    · exact .kTuple h hc
  | lst h1 h2 h3 => cases ht; exact .base (.lst (R.sub _ _ h1))
  | dct h1 => cases ht; exact .base (.dK (R.sub _ _ h1))
  | bag h1 => cases ht; exact .base (.lst (R.bag _ h1).1)
  | val v => cases ht
  | scr h => cases ht
  | dtb h1 h2 => cases ht
theorem k_isi {T n : String} {k : Bool} (ht : x.ty = some T) (hk : kitB T n = some k) : CallD g (.builtin "isinstance") [x, .val (.ty n)] (.d (.bl k)) := fun X hX => ⟨_, call_isi (X := X), fun c ρ B σ H F vs Q R hvs q => by
  obtain ⟨v, w, rfl, h1, h2⟩ := all2 hvs
  cases h2
  exact ⟨v, _, _, _, k, rfl, .ty n, by rw [hX.hK]; exact h1.ty R ht, kit_ty hk, q _ H F R (Same.refl F) (.bl _) apart_d⟩⟩
theorem call_isiS {X : Cx} : CallR X (.builtin "isinstance") (fun xs H Q => ∃ (x : V) (tp : Addr) (cs : List V) (t : Value) (us : List Value) (b : Bool), xs = [x, .ref tp] ∧ SqT X.K H tp cs ∧ Paired ClsV cs us ∧ TyX X.K H x t ∧ PySem.W.kitAny X.K t us = some b ∧ Q (.bl b) H) := by
  intro pins s σ H xs us Q I r h
  obtain ⟨x, tp, cs, t, ws, b, rfl, hT, k, ty, e, q⟩ := h
  obtain ⟨u1, u2, rfl, r1, r2⟩ := vals2 r
  cases (show u2 = Value.ref tp from r2)
  obtain ⟨P, Z, p, hx⟩ := kit_of I r1 ty
  obtain ⟨its, rv, ⟨o, h1, h2, n, h3⟩, _⟩ := I.tuple hT
  have e3 := ClsV.all k rv
  subst e3
  obtain ⟨oc, od, dt, sl⟩ := o
  simp only at h2 h3
  subst h2 h3
  exact PySem.W.kia_tup Z I.kIn p h1 e hx fun tk => ⟨.bl b, H, I.tok tk, rfl, q⟩
theorem k_isiT {T : String} {ns : List String} {k : Bool} (ht : x.ty = some T) (hk : ∀ K : PySem.W.Frag, PySem.W.kitAny K (.type T) (ns.map Value.type) = some k) : CallD g (.builtin "isinstance") [x, .tup (ns.map fun n => .val (.ty n))] (.d (.bl k)) := fun X hX => ⟨_, call_isiS (X := X), fun c ρ B σ H F vs Q R hvs q => by
  obtain ⟨v, w, rfl, h1, h2⟩ := all2 hvs
  cases h2 with
  | @tup a xs _ h2 hl h3 =>
    have all : ∀ (ns : List String) (xs : List V), RepAll g.T.K c.β F (ns.map fun n => D.val (.ty n)) xs → xs = ns.map V.ty := by
      intro ns
      induction ns with
      | nil => intro xs h; cases h; rfl
      | cons n ns ih => intro xs h; cases h with | cons h t => cases h; rw [ih _ t]; rfl
    cases all ns xs h3
    have pr : ∀ ns : List String, Paired ClsV (ns.map V.ty) (ns.map Value.type) := by
      intro ns
      induction ns with
      | nil => exact .nil
      | cons n ns ih => exact .cons (.ty n) ih
    exact ⟨v, a, _, _, _, k, rfl, by rw [hX.hK]; exact Same.seqT R.sub h2, pr ns, by rw [hX.hK]; exact h1.ty R ht, hk _, q (.bl k) H F R (Same.refl F) (.bl _) apart_d⟩⟩

/-! ### subscripts -/
def PlainIxE (b : Expr) : Prop := ∀ o i, subscripted b false o i = operate [o, i] (getItem o i)
theorem ev_ix {i : Int} (ha : Ev g a ρ B x B1) (hb : Ev g b ρ B1 (.int i) B2) (hx : x.seq = some ds) (hi : atI ds i = some d) (hs : PlainIxE b := by intro _ _; rfl) : Ev g (.Subscript a b pos) ρ B d B2 := by
  refine ⟨fun X hX => PE.imp (pe_ix (ix_list.or ix_tup) (ha.h X hX) (hb.h X hX) hs) fun σ H Q ⟨c, F, R, q⟩ => two R fun v w H2 F2 R2 e2 h1 h2 => ?_⟩
  cases h2
  obtain ⟨p, vs, rfl, hsq, hl, hr⟩ := h1.seq R2.sub hx
  have hlen := hr.length
  unfold atI at hi
  obtain ⟨j, h3, h4⟩ := Option.bind_eq_some_iff.mp hi
  obtain ⟨u, h5, h6⟩ := hr.get h4
  have hat : atI vs i = some u := by
    unfold atI
    rw [← hlen, h3]
    exact h5
  rcases hsq with hq | hq
  · exact .inl ⟨p, vs, i, u, rfl, rfl, by rw [hX.hK]; exact hq, hat, q u H2 F2 R2 e2 h6 apart_d⟩
  · exact .inr ⟨p, vs, i, u, rfl, rfl, by rw [hX.hK]; exact hq, hat, q u H2 F2 R2 e2 h6 apart_d⟩
/-- bag[i] -/
theorem ev_ixBag {i z : Int} (ha : Ev g a ρ B .bag B1) (hb : Ev g b ρ B1 (.int i) B2) (hi : atI [B2.1, B2.2.1, B2.2.2] i = some z) (hs : PlainIxE b := by intro _ _; rfl) : Ev g (.Subscript a b pos) ρ B (.int z) B2 := by
  refine ⟨fun X hX => PE.imp (pe_ix ix_list (ha.h X hX) (hb.h X hX) hs) fun σ H Q ⟨c, F, R, q⟩ => two R fun v w H2 F2 R2 e2 h1 h2 => ?_⟩
  cases h2
  cases h1 with
  | bag hβ =>
    refine ⟨_, [.int B2.1, .int B2.2.1, .int B2.2.2], i, .int z, rfl, rfl, .inl (.inl (R2.bag _ hβ).1), ?_, q _ H2 F2 R2 e2 (.int _) apart_d⟩
    unfold atI at hi ⊢
    obtain ⟨j, h3, h4⟩ := Option.bind_eq_some_iff.mp hi
    have h3' : ixN [V.int B2.1, V.int B2.2.1, V.int B2.2.2].length i = some j := h3
    rw [h3']
    show [V.int B2.1, V.int B2.2.1, V.int B2.2.2][j]? = some (.int z)
    match j, h4 with
    | 0, h4 => cases h4; rfl
    | 1, h4 => cases h4; rfl
    | 2, h4 => cases h4; rfl

/-! ### slices -/
def cutD (xs : List D) (lo hi : Option Int) : List D := (xs.drop (HT.sIx xs.length 0 lo)).take (HT.sIx xs.length xs.length hi - HT.sIx xs.length 0 lo)
/-- a bound of a slice -/
structure Po (g : G) (e : Option Expr) (ρ : Rho) (B : Bag) (i : Option Int) (B' : Bag) : Prop where
  h : ∀ X, At g X → ∃ t : TO, PO X e t ∧ ∀ (c : C0) (σ : L2.St) (H F : Hp) (Q : Option Int → Hp → Prop), Rel g.T.K c ρ B σ H F → (∀ H' F', Rel g.T.K c ρ B' σ H' F' → Same F F' → Q i H') → t σ H Q
theorem po_no : Po g none ρ B none B := ⟨fun X hX => ⟨_, po_none, fun c σ H F Q R q => q H F R (Same.refl F)⟩⟩
theorem po_so {i : Int} (h : Ev g e ρ B (.int i) B1) : Po g (some e) ρ B (some i) B1 := ⟨fun X hX => ⟨_, po_some (h.h X hX), fun c σ H F Q R q => ⟨c, F, R, fun v H1 F1 R1 e1 h1 _ => by
  cases h1
  exact ⟨i, rfl, q H1 F1 R1 e1⟩⟩⟩⟩
theorem cutD_rep {K : PySem.W.Frag} {β : Option Addr} {F : Hp} {vs : List V} {lo hi : Option Int} (h : RepAll K β F ds vs) : RepAll K β F (cutD ds lo hi) (cutV vs lo hi) := by
  unfold cutD cutV
  rw [h.length]
  exact (h.drop _).take _
theorem cutD_whole {lo hi : Option Int} (h : HT.sIx ds.length 0 lo = 0 ∧ HT.sIx ds.length ds.length hi = ds.length) : cutD ds lo hi = ds := by
  unfold cutD
  rw [h.1, h.2, Nat.sub_zero, List.drop_zero, List.take_length]
theorem ev_slT {lo hi : Option Expr} {l u : Option Int} {p2 : Pos} (ha : Ev g a ρ B (.tup ds) B1) (hl : Po g lo ρ B1 l B2) (hu : Po g hi ρ B2 u B3) : Ev g (.Subscript a (.Slice lo hi none p2) pos) ρ B (.tup (cutD ds l u)) B3 := by
  refine ⟨fun X hX => ?_⟩
  obtain ⟨tl, pl, ql⟩ := hl.h X hX
  obtain ⟨tu, pu, qu⟩ := hu.h X hX
  refine PE.imp (pe_slice sl_tupA (ha.h X hX) pl pu) fun σ H Q ⟨c, F, R, q⟩ => ⟨c, F, R, fun v H1 F1 R1 e1 h1 _ => ql c σ H1 F1 _ R1 fun H2 F2 R2 e2 => qu c σ H2 F2 _ R2 fun H3 F3 R3 e3 => ?_⟩
  have hh : Rep g.T.K c.β F3 (.tup ds) v := Rep.mono (e2.trans e3) h1
  clear h1
  cases hh with
  | tup h1 h2 h3 =>
    refine ⟨_, _, rfl, by rw [hX.hK]; exact Same.seqT R3.sub h1, fun w => ?_, fun w p np => ?_⟩
    · rw [← h3.length] at w
      rw [cutD_whole w] at q
      exact q _ H3 F3 R3 ((e1.trans e2).trans e3) (.tup h1 h2 h3) apart_d
    · obtain ⟨R4, e4⟩ := R3.new (o := .tup (cutV _ l u)) np
      exact q _ _ _ R4 (((e1.trans e2).trans e3).trans e4) (.tup (.inl (.inl upd_same)) (Nat.le_trans (cutV_length _ _ _) h2) (cutD_rep (h3.mono e4))) apart_d

/-! ### lists and tuples put together -/
theorem b_catL {xs ys : List D} (hl : xs.length + ys.length ≤ 1000000) : BinD g (binaryOp .Add) (.lst xs) (.lst ys) (.o (.l (xs ++ ys))) := fun X hX => ⟨_, op_cat (X := X), fun c ρ B σ H F v w Q R h1 h2 q => by
  cases h1 with
  | lst h1 l1 r1 =>
    cases h2 with
    | lst h2 l2 r2 =>
      have hz : (sizeLine : Nat) = 16777216 := sizeLine_eq
      have e1 := r1.length
      have e2 := r2.length
      refine ⟨_, _, _, _, rfl, rfl, R.sub _ _ h1, R.sub _ _ h2, by omega, fun p np => ?_⟩
      exact q _ _ F (R.newO np) (Same.refl F) ⟨p, rfl, OwnAt.new' R np ⟨_, rfl, by rw [List.length_append]; omega, r1.append r2⟩⟩ (R.apart np)⟩
theorem b_catT {xs ys : List D} (hl : xs.length + ys.length ≤ 1000000) : BinD g (binaryOp .Add) (.tup xs) (.tup ys) (.d (.tup (xs ++ ys))) := fun X hX => ⟨_, op_catA (X := X), fun c ρ B σ H F v w Q R h1 h2 q => by
  cases h1 with
  | tup h1 l1 r1 =>
    cases h2 with
    | tup h2 l2 r2 =>
      have hz : (sizeLine : Nat) = 16777216 := sizeLine_eq
      have e1 := r1.length
      have e2 := r2.length
      refine ⟨_, _, _, _, rfl, rfl, by rw [hX.hK]; exact Same.seqT R.sub h1, by rw [hX.hK]; exact Same.seqT R.sub h2, by omega, fun z => ?_, fun z1 z2 => ?_, fun z1 z2 p np => ?_⟩
      · subst z
        cases r1
        exact q _ H F R (Same.refl F) (.tup h2 l2 r2) apart_d
      · subst z2
        cases r2
        rw [List.append_nil] at q
        exact q _ H F R (Same.refl F) (.tup h1 l1 r1) apart_d
      · obtain ⟨R4, e4⟩ := R.new (o := .tup _) np
        exact q _ _ _ R4 e4 (.tup (.inl (.inl upd_same)) (by rw [List.length_append]; omega) ((r1.append r2).mono e4)) apart_d⟩
theorem ev_catT {xs ys : List D} (ha : Ev g a ρ B (.tup xs) B1) (hb : Ev g b ρ B1 (.tup ys) B2) (hl : xs.length + ys.length ≤ 1000000) : Ev g (.BinOp a .Add b pos) ρ B (.tup (xs ++ ys)) B2 := ev_bin (b_catT hl) ha hb
theorem ev_catL {xs ys : List D} (ha : Ev g a ρ B (.lst xs) B1) (hb : Ev g b ρ B1 (.lst ys) B2) (hl : xs.length + ys.length ≤ 1000000) : Ev g (.BinOp a .Add b pos) ρ B (.lst (xs ++ ys)) B2 := (binR (b_catL hl) ha hb).fz

/-! ### in -/
def D.flat : D → Option V
  | .int i => some (.int i)
  | .bl b => some (.bl b)
  | .str s => some (.str s)
  | .non => some .non
  | _ => none
theorem Rep.flat {K : PySem.W.Frag} {β : Option Addr} {F : Hp} {x : D} {u v : V} (h : Rep K β F x v) (hx : x.flat = some u) : v = u ∧ flatV v = true := by
  cases h with
  | non => cases hx; exact ⟨rfl, rfl⟩
  | bl b => cases hx; exact ⟨rfl, rfl⟩
  | int b => cases hx; exact ⟨rfl, rfl⟩
  | str b => cases hx; exact ⟨rfl, rfl⟩
  | _ => cases hx
theorem RepAll.flats {K : PySem.W.Frag} {β : Option Addr} {F : Hp} : ∀ {ds : List D} {us vs : List V}, RepAll K β F ds vs → ds.mapM D.flat = some us → vs = us ∧ vs.all flatV = true
  | _, _, _, .nil, h => by cases h; exact ⟨rfl, rfl⟩
  | d :: ds, us, _, .cons h t, hx => by
    rw [List.mapM_cons] at hx
    obtain ⟨u, h1, hx⟩ := Option.bind_eq_some_iff.mp hx
    obtain ⟨us', h2, hx⟩ := Option.bind_eq_some_iff.mp hx
    cases hx
    obtain ⟨rfl, f1⟩ := h.flat h1
    obtain ⟨rfl, f2⟩ := t.flats h2
    exact ⟨rfl, by rw [List.all_cons, f1, f2]; rfl⟩
theorem c_in {us : List V} {u : V} {k : Bool} (hx : x.flat = some u) (hy : y.seq = some ds) (hd : ds.mapM D.flat = some us) (hk : inV u us = k) : BinD g (compareOp .In) x y (.d (.bl k)) := fun X hX => ⟨_, op_in_seq (X := X), fun c ρ B σ H F v w Q R h1 h2 q => by
  obtain ⟨rfl, f1⟩ := h1.flat hx
  obtain ⟨p, vs, rfl, hsq, hl, hr⟩ := h2.seq R.sub hy
  obtain ⟨rfl, f2⟩ := hr.flats hd
  refine ⟨p, vs, rfl, by rw [hX.hK]; exact hsq, f1, f2, ?_⟩
  rw [hk]
  exact q _ H F R (Same.refl F) (.bl _) apart_d⟩
theorem c_notIn {us : List V} {u : V} {k : Bool} (hx : x.flat = some u) (hy : y.seq = some ds) (hd : ds.mapM D.flat = some us) (hk : inV u us = k) : BinD g (compareOp .NotIn) x y (.d (.bl (!k))) := fun X hX => ⟨_, op_notIn_seq (X := X), fun c ρ B σ H F v w Q R h1 h2 q => by
  obtain ⟨rfl, f1⟩ := h1.flat hx
  obtain ⟨p, vs, rfl, hsq, hl, hr⟩ := h2.seq R.sub hy
  obtain ⟨rfl, f2⟩ := hr.flats hd
  refine ⟨p, vs, rfl, by rw [hX.hK]; exact hsq, f1, f2, ?_⟩
  rw [hk]
  exact q _ H F R (Same.refl F) (.bl _) apart_d⟩
theorem flats_ints : ∀ ns : List Int, (ns.map D.int).mapM D.flat = some (ns.map V.int)
  | [] => rfl
  | n :: ns => by
    rw [List.map_cons, List.mapM_cons, flats_ints ns]
    rfl
theorem inV_ints {i : Int} : ∀ {ns : List Int}, inV (.int i) (ns.map V.int) = decide (i ∈ ns)
  | [] => rfl
  | n :: ns => by
    unfold inV
    rw [List.map_cons, List.any_cons]
    have := @inV_ints i ns
    unfold inV at this
    rw [this]
    have e : eqV (V.int n) (V.int i) = decide (i = n) := by
      show (n == i) = _
      rw [Bool.beq_eq_decide_eq]
      exact decide_eq_decide.mpr eq_comm
    rw [e, ← Bool.decide_or]
    exact decide_eq_decide.mpr List.mem_cons.symm
theorem c_inI {i : Int} {ns : List Int} (hy : y.seq = some (ns.map .int)) : BinD g (compareOp .In) (.int i) y (.d (.bl (decide (i ∈ ns)))) := c_in rfl hy (flats_ints ns) inV_ints
theorem c_notInI {i : Int} {ns : List Int} (hy : y.seq = some (ns.map .int)) : BinD g (compareOp .NotIn) (.int i) y (.d (.bl (!decide (i ∈ ns)))) := c_notIn rfl hy (flats_ints ns) inV_ints

/-! ### == of data -/
mutual
def D.py : D → Option PyData
  | .non => some .none
  | .bl b => some (.bool b)
  | .int i => some (.int i)
  | .str s => some (.str s)
  | .tup ds => (D.pys ds).map .tuple
  | .lst ds => (D.pys ds).map .list
  | _ => none
def D.pys : List D → Option (List PyData)
  | [] => some []
  | d :: ds => match D.py d, D.pys ds with
    | some x, some xs => some (x :: xs)
    | _, _ => none
end
mutual
theorem Rep.py {K : PySem.W.Frag} {β : Option Addr} {F H : Hp} (s : Same F H) : ∀ {x : D} {v : V} {pd : PyData}, Rep K β F x v → x.py = some pd → Dp K H v pd
  | _, _, _, .non, h => by unfold D.py at h; cases h; exact .non
  | _, _, _, .bl b, h => by unfold D.py at h; cases h; exact .bl b
  | _, _, _, .int b, h => by unfold D.py at h; cases h; exact .int b
  | _, _, _, .str b, h => by unfold D.py at h; cases h; exact .str b
  | .tup ds, _, _, .tup h1 h2 h3, h => by
    unfold D.py at h
    obtain ⟨ps, hp, h⟩ := Option.map_eq_some_iff.mp h
    subst h
    exact .tup (Same.seqT s h1) (RepAll.py s h3 hp)
  | .lst ds, _, _, .lst h1 h2 h3, h => by
    unfold D.py at h
    obtain ⟨ps, hp, h⟩ := Option.map_eq_some_iff.mp h
    subst h
    exact .lst (SqL.sub s h1) (RepAll.py s h3 hp)
  | _, _, _, .dct .., h => by unfold D.py at h; cases h
  | _, _, _, .bag _, h => by unfold D.py at h; cases h
  | _, _, _, .val _, h => by unfold D.py at h; cases h
  | _, _, _, .scr _, h => by unfold D.py at h; cases h
  | _, _, _, .dtb .., h => by unfold D.py at h; cases h
theorem RepAll.py {K : PySem.W.Frag} {β : Option Addr} {F H : Hp} (s : Same F H) : ∀ {xs : List D} {vs : List V} {ps : List PyData}, RepAll K β F xs vs → D.pys xs = some ps → DpAll K H vs ps
  | _, _, _, .nil, h => by unfold D.pys at h; cases h; exact .nil
  | d :: ds, _, _, .cons h1 h2, h => by
    unfold D.pys at h
    split at h
    · rename_i x xs hx hxs
      cases h
      exact .cons (Rep.py s h1 hx) (RepAll.py s h2 hxs)
    · cases h
end
theorem c_eqD {px py : PyData} (hx : x.py = some px) (hy : y.py = some py) (sx : SeqAt.shaped px = true) (sy : SeqAt.shaped py = true) : BinD g (compareOp .Eq) x y (.d (.bl (PyData.eqv px py))) := fun X hX => ⟨_, op_eqD hX.room.units, fun c ρ B σ H F v w Q R h1 h2 q => by
  exact ⟨px, py, by rw [hX.hK]; exact h1.py R.sub hx, by rw [hX.hK]; exact h2.py R.sub hy, sx, sy, q _ H F R (Same.refl F) (.bl _) apart_d⟩⟩
theorem c_neD {px py : PyData} (hx : x.py = some px) (hy : y.py = some py) (sx : SeqAt.shaped px = true) (sy : SeqAt.shaped py = true) : BinD g (compareOp .NotEq) x y (.d (.bl (!PyData.eqv px py))) := fun X hX => ⟨_, op_neD hX.room.units, fun c ρ B σ H F v w Q R h1 h2 q => by
  exact ⟨px, py, by rw [hX.hK]; exact h1.py R.sub hx, by rw [hX.hK]; exact h2.py R.sub hy, sx, sy, q _ H F R (Same.refl F) (.bl _) apart_d⟩⟩
end
end PD
namespace PD
open PySem PySem.Spec PyProof.Rows L2

/-! ### defs -/
/-- a def's promise: R tells what comes of which arguments and bag -/
abbrev Con := List D → Bag → Res → Bag → Prop
def spD (K : PySem.W.Frag) (R : Con) : Sp := fun vs H Q _ => ∃ (β : Option Addr) (F : Hp) (ds : List D) (B : Bag) (r : Res) (B' : Bag), R ds B r B' ∧ RepAll K β F ds vs ∧ Same F H ∧ (∀ a, β = some a → H a = some (bagH B) ∧ F a = none) ∧
  ∀ v H' F', (∀ b o, some b ≠ β → H b = some o → H' b = some o) → Same F F' → (∀ b, H b ≠ none → F b = none → F' b = none) → Same F' H' → (∀ a, β = some a → H' a = some (bagH B')) → ResOk K ⟨β, H, F⟩ H' F' r v → Q v H'
structure HasFn (T : Top) (k : Nat) (x : Str) (R : Con) : Prop where
  ex : ∃ (f : Addr) (fd : FuncData) (ps : List Str), T.mg x = some (.ref f) ∧ PySem.W.keepIn T.K (.ref f) = true ∧ Binds T.K fd ps [] ∧ FnOk T.P T.w T.K T.mg T.base CX0 k f fd ps (spD T.K R)

theorem rel_call {K : PySem.W.Frag} {c : C0} {ρ : Rho} {B B' : Bag} {σ : L2.St} {H F H' F' : Hp} (R : Rel K c ρ B σ H F) (fr : ∀ b o, some b ≠ c.β → H b = some o → H' b = some o) (e : Same F F') (dj : ∀ b, H b ≠ none → F b = none → F' b = none) (sub : Same F' H')
    (bg : ∀ a, c.β = some a → H' a = some (bagH B')) : Rel K c ρ B' σ H' F' where
  len := R.len
  fr := fun b o hb h => fr b o hb (R.fr b o hb h)
  gr := R.gr.trans e
  dj := fun b h1 h2 => by
    by_cases hb : some b = c.β
    · exact dj b (by rw [(R.bag b hb.symm).1]; exact fun z => nomatch z) (R.F_bag hb.symm)
    · refine dj b (fun z => ?_) (R.dj b h1 h2)
      cases q : c.H0 b with
      | none => exact h1 q
      | some o => rw [R.fr b o hb q] at z; cases z
  sub := sub
  bag := fun a h => ⟨bg a h, (R.bag a h).2⟩
  dat := fun i x h => let ⟨v, h1, h2⟩ := R.dat i x h; ⟨v, h1, h2.mono e⟩
  own := fun i ct h => by
    obtain ⟨p, h1, ⟨ho, h2, h3⟩, h4, h5⟩ := R.own i ct h
    exact ⟨p, h1, ⟨ho, fr p _ (R.H_none h4) h2, h3.mono e⟩, h4, dj p (by rw [h2]; exact fun z => nomatch z) h5⟩
  sep := R.sep

section
variable {g : G} {ρ : Rho} {B B1 B2 B3 : Bag} {a b e : Expr} {pos p : Pos} {x y z d : D} {es : List Expr} {ds : List D} {n : Str}
/-- the reading of a call, once the arguments stand -/
theorem call_sp {K : PySem.W.Frag} {c : C0} {σ : L2.St} {H F : Hp} {R : Con} {r : Res} {vs : List V} {Q : VK} {E : XK} (Re : Rel K c ρ B1 σ H F) (hR : R ds B1 r B2) (h1 : RepAll K c.β F ds vs)
    (q : ∀ v H' F', Rel K c ρ B2 σ H' F' → Same F F' → ResOk K c H' F' r v → Apart ρ σ r v → Q v H') : spD K R vs H Q E := by
  refine ⟨c.β, F, ds, B1, r, B2, hR, h1, Re.sub, fun a ha => ⟨(Re.bag a ha).1, Re.F_bag ha⟩, fun v H' F' fr e dj sub bg ok => ?_⟩
  have R2 := rel_call Re fr e dj sub bg
  cases r with
  | d x => exact q v H' F' R2 e ok apart_d
  | o ct =>
    obtain ⟨p, rfl, ⟨ho, h2, h3⟩, n0, nF⟩ := ok
    exact q _ H' F' R2 e ⟨p, rfl, ⟨ho, h2, h3⟩, Re.H0_none n0, nF⟩ (Re.apart n0)
theorem ev_call {j : Nat} {R : Con} {r : Res} (hF : HasFn g.T j n R) (hj : j ≤ g.k) (hg : Glb g n) (ha : Evs g (e :: es) ρ B ds B1) (hR : R ds B1 r B2) (hdb : (n == ("__debug__" : Str)) = false := by decide)
    (he : ∀ env : Env, starEach (e :: es) env = (false, eval e env) :: starEach es env := by intro _; rfl) (hpl : ∀ env : Env, (backTo pos (starEach es env)).any (·.1) = false := by intro _; rfl) : EvR g (.Call (.Name n p) (e :: es) [] pos) ρ B r B2 := by
  refine ⟨fun X hX => ?_⟩
  obtain ⟨f, fd, ps, hm, hk, hb, F⟩ := hF.ex
  have F' : FnOk X.prog X.w X.K X.mg X.base CX0 j f fd ps (spD g.T.K R) := by
    rw [hX.hP, hX.hw, hX.hK, hX.hm, hX.hb]; exact F
  refine PE.imp (pe_call F' (hX.room.mono hj) (hg.at hX) (by rw [hX.hm]; exact hm) (by rw [hX.hK]; exact hk) (by rw [hX.hK]; exact hb) .nil pass0 (ha.h X hX) hdb (he X.env) (hpl X.env)) fun σ H Q ⟨c, F, Re, q⟩ => ⟨c, F, Re, fun vs H1 F1 R1 e1 h1 => ?_⟩
  show spD g.T.K R (vs ++ []) H1 Q E0
  rw [List.append_nil]
  exact call_sp R1 hR h1 fun v H' F' R2 e2 ok ap => q v H' F' R2 (e1.trans e2) ok ap

/-! ### blocks and small statements -/
variable {st : Stmt} {sts : List Stmt} {E : En}
theorem GoesTo.mono {K : PySem.W.Frag} {c : C0} {F F' : Hp} {P P' : Rho → Bag → Prop} {Q : L2.St → Hp → Prop} (h : GoesTo K c F P Q) (e : Same F F') (w : ∀ ρ B, P' ρ B → P ρ B) : GoesTo K c F' P' Q := fun ρ' B' σ' H' F2 R e2 p => h ρ' B' σ' H' F2 R (e.trans e2) (w _ _ p)
theorem RetsTo.mono {K : PySem.W.Frag} {c : C0} {F F' : Hp} {P P' : Res → Bag → Prop} {Q : VK} (h : RetsTo K c F P Q) (e : Same F F') (w : ∀ r B, P' r B → P r B) : RetsTo K c F' P' Q := fun ρ' B' σ' H' F2 r v R e2 ok p => h ρ' B' σ' H' F2 r v R (e.trans e2) ok (w _ _ p)
theorem exs_nil (h : E.nx ρ B) : Exs g [] ρ B E := ⟨fun X hX => PSs.imp pss_nil fun D σ H ⟨c, F, R, q1, _⟩ => q1 ρ B σ H F R (Same.refl F) h⟩
theorem tEx_seq {K : PySem.W.Frag} {t u : TS} {D : Ends} {σ : L2.St} {H : Hp} {P : Rho → Bag → Prop} (h : tEx K ρ B E D σ H) (ht : ∀ D σ H, tEx K ρ B { E with nx := P } D σ H → t D σ H) (hu : ∀ ρ' B', P ρ' B' → ∀ σ H, tEx K ρ' B' E D σ H → u D σ H) : tSeq t u D σ H := by
  obtain ⟨c, F, R, q1, q2, q3, q4⟩ := h
  exact ht _ σ H ⟨c, F, R, fun ρ' B' σ' H' F' R' e' p => hu ρ' B' p σ' H' ⟨c, F', R', q1.mono e' fun _ _ z => z, q2.mono e' fun _ _ z => z, q3.mono e' fun _ _ z => z, q4.mono e' fun _ _ z => z⟩, q2, q3, q4⟩
/-- the reading of the rest: at every state that the first leaves -/
theorem exs_cons (h1 : Ex g st ρ B { E with nx := fun ρ' B' => Exs g sts ρ' B' E }) : Exs g (st :: sts) ρ B E := by
  refine ⟨fun X hX => ?_⟩
  refine PSs.imp (pss_cons (h1.h X hX) (u := fun D σ H => ∃ ρ' B', Exs g sts ρ' B' E ∧ tEx g.T.K ρ' B' E D σ H) ⟨fun pins s σ H D I ⟨ρ', B', he, q⟩ => (he.h X hX).run pins s σ H D I q⟩) fun D σ H h => ?_
  exact tEx_seq h (fun _ _ _ z => z) fun ρ' B' p σ H q => ⟨ρ', B', p, q⟩
theorem exs_one (h1 : Ex g st ρ B E) : Exs g [st] ρ B E := ⟨fun X hX => pss_one (h1.h X hX)⟩
theorem exs_never (h : False) : Exs g sts ρ B E := h.elim
theorem Exs.mono {E' : En} (h : Exs g sts ρ B E) (h1 : ∀ ρ B, E.nx ρ B → E'.nx ρ B) (h2 : ∀ r B, E.rt r B → E'.rt r B) (h3 : ∀ ρ B, E.bk ρ B → E'.bk ρ B) (h4 : ∀ ρ B, E.ct ρ B → E'.ct ρ B) : Exs g sts ρ B E' :=
  ⟨fun X hX => PSs.imp (h.h X hX) fun D σ H ⟨c, F, R, q1, q2, q3, q4⟩ => ⟨c, F, R, q1.mono (Same.refl F) h1, q2.mono (Same.refl F) h2, q3.mono (Same.refl F) h3, q4.mono (Same.refl F) h4⟩⟩
theorem ex_pass (h : E.nx ρ B) : Ex g (.Pass pos) ρ B E := ⟨fun X hX => PS.imp ps_pass fun D σ H ⟨c, F, R, q1, _⟩ => q1 ρ B σ H F R (Same.refl F) h⟩
theorem ex_cont (h : E.ct ρ B) : Ex g (.Continue pos) ρ B E := ⟨fun X hX => PS.imp ps_continue fun D σ H ⟨c, F, R, q1, q2, q3, q4⟩ => q4 ρ B σ H F R (Same.refl F) h⟩
theorem ex_ret {r : Res} (he : EvR g e ρ B r B1) (h : E.rt r B1) : Ex g (.Return (some e) pos) ρ B E := ⟨fun X hX => PS.imp (ps_ret (he.h X hX)) fun D σ H ⟨c, F, R, q1, q2, _⟩ => ⟨c, F, R, fun v H' F' R' e' ok _ => q2 ρ B1 σ H' F' r v R' e' ok h⟩⟩
theorem ex_retN (h : E.rt (.d .non) B) : Ex g (.Return none pos) ρ B E := ⟨fun X hX => PS.imp ps_retN fun D σ H ⟨c, F, R, q1, q2, _⟩ => q2 ρ B σ H F _ _ R (Same.refl F) (ResOk.dat .non) h⟩
theorem ex_if {k : Bool} {as bs : List Stmt} (hc : Ts g e ρ B k B1) (ha : k = true → Exs g as ρ B1 E) (hb : k = false → Exs g bs ρ B1 E) : Ex g (.If e as bs pos) ρ B E := by
  refine ⟨fun X hX => ?_⟩
  have go : ∀ D σ H, tEx g.T.K ρ B E D σ H → ∃ c F, Rel g.T.K c ρ B σ H F ∧ ∀ H' F', Rel g.T.K c ρ B1 σ H' F' → Same F F' → tEx g.T.K ρ B1 E D σ H' := fun D σ H ⟨c, F, R, q1, q2, q3, q4⟩ =>
    ⟨c, F, R, fun H' F' R' e' => ⟨c, F', R', q1.mono e' fun _ _ z => z, q2.mono e' fun _ _ z => z, q3.mono e' fun _ _ z => z, q4.mono e' fun _ _ z => z⟩⟩
  cases k with
  | true => exact PS.imp (ps_if (hc.h X hX) ((ha rfl).h X hX) pss_never) fun D σ H h => let ⟨c, F, R, q⟩ := go D σ H h; ⟨c, F, R, fun H' F' R' e' => iteT (q H' F' R' e')⟩
  | false => exact PS.imp (ps_if (hc.h X hX) pss_never ((hb rfl).h X hX)) fun D σ H h => let ⟨c, F, R, q⟩ := go D σ H h; ⟨c, F, R, fun H' F' R' e' => iteF (q H' F' R' e')⟩
/-- an expression whose value is dropped -/
theorem ex_expr {r : Res} (he : EvR g e ρ B r B1) (h : E.nx ρ B1) (hs : ∀ env : Env, swapsWith e none pos.line env = pure false := by intro _; rfl) : Ex g (.Expr e pos) ρ B E :=
  ⟨fun X hX => PS.imp (ps_expr (he.h X hX) (hs X.env)) fun D σ H ⟨c, F, R, q1, q2, _⟩ => ⟨c, F, R, fun v H' F' R' e' ok _ => q1 ρ B1 σ H' F' R' e' h⟩⟩
theorem ex_doc {s j} {pos' : Pos} (h : E.nx ρ B) : Ex g (.Expr (.Constant (.str s) j pos) pos') ρ B E := ⟨fun X hX => PS.imp ps_doc fun D σ H ⟨c, F, R, q1, _⟩ => q1 ρ B σ H F R (Same.refl F) h⟩

/-! ### targets -/
/-- the result as a slot -/
def Res.sl : Res → Sl
  | .d x => .d x
  | .o ct => .o ct
theorem Rel.set {K : PySem.W.Frag} {c : C0} {σ : L2.St} {H F : Hp} {r : Res} {v : V} (R : Rel K c ρ B σ H F) (ok : ResOk K c H F r v) (ap : Apart ρ σ r v) (i : Nat) : Rel K c (ρ.set i r.sl) B (σ.set i (some v)) H F := by
  have pick : ∀ (j : Nat) (s : Sl), (ρ.set i r.sl)[j]? = some s → (j = i ∧ s = r.sl ∧ (σ.set i (some v))[j]? = some (some v)) ∨ (j ≠ i ∧ ρ[j]? = some s ∧ (σ.set i (some v))[j]? = σ[j]?) := fun j s h => by
    by_cases hj : i = j
    · subst hj
      by_cases hi : i < ρ.length
      · rw [List.getElem?_set_self hi] at h
        rw [List.getElem?_set_self (by rw [← R.len]; exact hi)]
        exact .inl ⟨rfl, (Option.some.inj h).symm, rfl⟩
      · rw [List.getElem?_eq_none (by rw [List.length_set]; omega)] at h
        cases h
    · rw [List.getElem?_set_ne hj] at h
      exact .inr ⟨fun z => hj z.symm, h, List.getElem?_set_ne hj⟩
  refine ⟨by rw [List.length_set, List.length_set]; exact R.len, R.fr, R.gr, R.dj, R.sub, R.bag, fun j x h => ?_, fun j ct h => ?_, fun j j' ct ct' p h1 h2 h3 h4 => ?_⟩
  · rcases pick j _ h with ⟨_, hs, hσ⟩ | ⟨_, h', hσ⟩
    · cases r with
      | d y =>
        cases hs
        exact ⟨v, hσ, ok⟩
      | o ct => cases hs
    · rw [hσ]
      exact R.dat j x h'
  · rcases pick j _ h with ⟨_, hs, hσ⟩ | ⟨_, h', hσ⟩
    · cases r with
      | d y => cases hs
      | o ct =>
        cases hs
        obtain ⟨p, rfl, h⟩ := ok
        exact ⟨p, hσ, h⟩
    · rw [hσ]
      exact R.own j ct h'
  · rcases pick j _ h1 with ⟨e1, hs, hσ⟩ | ⟨e1, h', hσ⟩
    · rcases pick j' _ h2 with ⟨e2, hs', hσ'⟩ | ⟨e2, h'', hσ'⟩
      · rw [e1, e2]
      · rw [hσ] at h3
        rw [hσ'] at h4
        cases r with
        | d y => cases hs
        | o ct0 => exact absurd (Option.some.inj (Option.some.inj h3)) (ap ct0 rfl j' ct' p h'' h4)
    · rcases pick j' _ h2 with ⟨e2, hs', hσ'⟩ | ⟨e2, h'', hσ'⟩
      · rw [hσ] at h3
        rw [hσ'] at h4
        cases r with
        | d y => cases hs'
        | o ct0 => exact absurd (Option.some.inj (Option.some.inj h4)) (ap ct0 rfl j ct p h' h3)
      · rw [hσ] at h3
        rw [hσ'] at h4
        exact R.sep j j' ct ct' p h' h'' h3 h4
/-- slots forgotten -/
def fgt (ρ : Rho) : List Nat → Rho
  | [] => ρ
  | v :: vs => (fgt ρ vs).set v .u
theorem Rel.fgt1 {K : PySem.W.Frag} {c : C0} {σ : L2.St} {H F : Hp} (R : Rel K c ρ B σ H F) (i : Nat) : Rel K c (ρ.set i .u) B (σ.set i none) H F := by
  have pick : ∀ (j : Nat) (s : Sl), (ρ.set i .u)[j]? = some s → s = .u ∨ (j ≠ i ∧ ρ[j]? = some s ∧ (σ.set i none)[j]? = σ[j]?) := fun j s h => by
    by_cases hj : i = j
    · subst hj
      by_cases hi : i < ρ.length
      · rw [List.getElem?_set_self hi] at h
        exact .inl (Option.some.inj h).symm
      · rw [List.getElem?_eq_none (by rw [List.length_set]; omega)] at h
        cases h
    · rw [List.getElem?_set_ne hj] at h
      exact .inr ⟨fun z => hj z.symm, h, List.getElem?_set_ne hj⟩
  refine ⟨by rw [List.length_set, List.length_set]; exact R.len, R.fr, R.gr, R.dj, R.sub, R.bag, fun j x h => ?_, fun j ct h => ?_, fun j j' ct ct' p h1 h2 h3 h4 => ?_⟩
  · rcases pick j _ h with hs | ⟨_, h', hσ⟩
    · cases hs
    · rw [hσ]; exact R.dat j x h'
  · rcases pick j _ h with hs | ⟨_, h', hσ⟩
    · cases hs
    · rw [hσ]; exact R.own j ct h'
  · rcases pick j _ h1 with hs | ⟨_, h', hσ⟩
    · cases hs
    · rcases pick j' _ h2 with hs | ⟨_, h'', hσ'⟩
      · cases hs
      · rw [hσ] at h3
        rw [hσ'] at h4
        exact R.sep j j' ct ct' p h' h'' h3 h4
theorem Rel.fgt {K : PySem.W.Frag} {c : C0} {σ : L2.St} {H F : Hp} (R : Rel K c ρ B σ H F) : ∀ vs : List Nat, Rel K c (fgt ρ vs) B (wipe σ vs) H F
  | [] => R
  | v :: vs => (R.fgt vs).fgt1 v
theorem wipe_set {σ : L2.St} {i : Nat} {o : Option V} : ∀ {vs : List Nat}, i ∈ vs → wipe (σ.set i o) vs = wipe σ vs
  | v :: vs, h => by
    unfold wipe
    by_cases hv : i ∈ vs
    · rw [wipe_set hv]
    · have e : v = i := ((List.mem_cons.mp h).resolve_right hv).symm
      subst e
      have go : ∀ (vs : List Nat), v ∉ vs → wipe (σ.set v o) vs = (wipe σ vs).set v o := by
        intro vs
        induction vs with
        | nil => intro _; rfl
        | cons u us ih =>
          intro hu
          unfold wipe
          rw [ih fun z => hu (List.mem_cons_of_mem _ z), List.set_comm _ _ (fun z => hu (by rw [z]; exact List.mem_cons_self))]
      rw [go vs hv, List.set_set]
/-- a target takes x: the slots become ρ'; only those of is are touched -/
def tTg (K : PySem.W.Frag) (ρ : Rho) (x : D) (ρ' : Rho) (is : List Nat) : TG := fun v σ H Q => ∃ c B F, Rel K c ρ B σ H F ∧ Rep K c.β F x v ∧ ∀ σ', Rel K c ρ' B σ' H F → (∀ vs : List Nat, (∀ i ∈ is, i ∈ vs) → wipe σ' vs = wipe σ vs) → Q σ' H
structure Tg (g : G) (tg : Expr) (ρ : Rho) (x : D) (ρ' : Rho) (is : List Nat) : Prop where
  h : ∀ X, At g X → PG X tg (tTg g.T.K ρ x ρ' is)
def tTgs (K : PySem.W.Frag) (ρ : Rho) (xs : List D) (ρ' : Rho) (is : List Nat) : TGs := fun vs σ H Q => ∃ c B F, Rel K c ρ B σ H F ∧ RepAll K c.β F xs vs ∧ ∀ σ', Rel K c ρ' B σ' H F → (∀ vs : List Nat, (∀ i ∈ is, i ∈ vs) → wipe σ' vs = wipe σ vs) → Q σ' H
structure Tgs (g : G) (tgs : List Expr) (ρ : Rho) (xs : List D) (ρ' : Rho) (is : List Nat) : Prop where
  h : ∀ X, At g X → PGs X tgs (tTgs g.T.K ρ xs ρ' is)
theorem PG.imp {X : Cx} {e : Expr} {t t' : TG} (h : PG X e t) (w : ∀ v σ H Q, t' v σ H Q → t v σ H Q) : PG X e t' := ⟨fun pins s σ H v u Q I r q => h.run pins s σ H v u Q I r (w v σ H Q q)⟩
theorem PGs.imp {X : Cx} {e : List Expr} {t t' : TGs} (h : PGs X e t) (w : ∀ v σ H Q, t' v σ H Q → t v σ H Q) : PGs X e t' := ⟨fun pins s σ H v u Q I r q => h.run pins s σ H v u Q I r (w v σ H Q q)⟩
/-- a name that is stored -/
structure St1 (g : G) (i : Nat) (n : Str) : Prop where
  ix : g.N[i]? = some n
  loc : Loc g.sc n
  fn : g.cf n = true ∨ g.sc.names.lookup n = some .local
theorem tg_name {i : Nat} (s : St1 g i n) : Tg g (.Name n pos) ρ x (ρ.set i (.d x)) [i] :=
  ⟨fun X hX => PG.imp (pg_name (X := X) (i := i) (by rw [hX.hN]; exact hX.nd) (by rw [hX.hN]; exact s.ix) (by rw [hX.hs]; exact s.loc) (s.fn.imp (fun h => hX.cell _ h) (fun h => by rw [hX.hs]; exact h))) fun v σ H Q ⟨c, B, F, R, hv, q⟩ =>
    q _ (R.set (r := .d x) hv apart_d i) fun vs h => wipe_set (h i List.mem_cons_self)⟩
theorem tgs_nil : Tgs g [] ρ [] ρ [] := ⟨fun X hX => PGs.imp pgs_nil fun v σ H Q ⟨c, B, F, R, hv, q⟩ => by
  cases hv
  exact ⟨rfl, q σ R fun _ _ => rfl⟩⟩
theorem tgs_cons {t : Expr} {ts : List Expr} {xs : List D} {ρ1 ρ2 : Rho} {is js : List Nat} (h1 : Tg g t ρ x ρ1 is) (h2 : Tgs g ts ρ1 xs ρ2 js) (hs : ∀ env : Env, (assignEach (t :: ts) env).map (·.2) = assign t env :: (assignEach ts env).map (·.2) := by intro _; rfl) : Tgs g (t :: ts) ρ (x :: xs) ρ2 (is ++ js) :=
  ⟨fun X hX => PGs.imp (pgs_cons (h1.h X hX) (h2.h X hX) (hs X.env)) fun vs σ H Q ⟨c, B, F, R, hv, q⟩ => by
    cases hv with
    | cons h t =>
      exact ⟨_, _, rfl, c, B, F, R, h, fun σ1 R1 w1 => ⟨c, B, F, R1, t, fun σ2 R2 w2 => q σ2 R2 fun vs hv => (w2 vs fun i hi => hv i (List.mem_append_right _ hi)).trans (w1 vs fun i hi => hv i (List.mem_append_left _ hi))⟩⟩⟩
theorem tg_tup {ts : List Expr} {xs : List D} {ρ' : Rho} {is : List Nat} {j : Nat} (h : Tgs g ts ρ xs ρ' is) (hn : ∀ env : Env, (assignEach ts env).length = xs.length := by intro _; rfl) (hst : ∀ env : Env, (assignEach ts env).findIdx? (·.1) = none := by intro _; rfl) : Tg g (.Tuple ts j pos) ρ (.tup xs) ρ' is :=
  ⟨fun X hX => PG.imp (pg_tup hX.calm (h.h X hX) (hn X.env) (hst X.env)) fun v σ H Q ⟨c, B, F, R, hv, q⟩ => by
    cases hv with
    | tup h1 h2 h3 => exact ⟨_, _, rfl, by rw [hX.hK]; exact Same.seqT R.sub h1, h3.length.symm, c, B, F, R, h3, q⟩⟩

/-- name = e -/
theorem ex_setR {r : Res} {i : Nat} {pos' : Pos} (s : St1 g i n) (he : EvR g e ρ B r B1) (h : E.nx (ρ.set i r.sl) B1) (hs : ∀ env : Env, env.scope = g.sc → swapsWith e (some (.Name n pos')) pos.line env = pure false := by intro _ _; rfl) : Ex g (.Assign [.Name n pos'] e pos) ρ B E :=
  ⟨fun X hX => PS.imp (ps_set (X := X) (i := i) (by rw [hX.hN]; exact hX.nd) (by rw [hX.hN]; exact s.ix) (by rw [hX.hs]; exact s.loc) (he.h X hX) (hs X.env hX.hs) (s.fn.imp (fun h => hX.cell _ h) (fun h => by rw [hX.hs]; exact h))) fun D σ H ⟨c, F, R, q1, _⟩ =>
    ⟨c, F, R, fun v H' F' R' e' ok ap => q1 _ B1 _ H' F' (R'.set ok ap i) e' h⟩⟩
theorem ex_set {i : Nat} {pos' : Pos} (s : St1 g i n) (he : Ev g e ρ B x B1) (h : E.nx (ρ.set i (.d x)) B1) (hs : ∀ env : Env, env.scope = g.sc → swapsWith e (some (.Name n pos')) pos.line env = pure false := by intro _ _; rfl) : Ex g (.Assign [.Name n pos'] e pos) ρ B E := ex_setR s he h hs
/-- target = e -/
theorem ex_asg {tg : Expr} {ρ' : Rho} {is : List Nat} (he : Ev g e ρ B x B1) (ht : Tg g tg ρ x ρ' is) (h : E.nx ρ' B1) (hs : ∀ env : Env, swapsWithSole [tg] e pos.line env = pure false := by intro _; rfl) (hw : ∀ env : Env, swappedStores [tg] e env = pure none := by intro _; rfl)
    (h1 : ∀ env : Env, (assignEach [tg] env).map (·.2) = [assign tg env] := by intro _; rfl) : Ex g (.Assign [tg] e pos) ρ B E :=
  ⟨fun X hX => PS.imp (ps_asg (he.h X hX) (ht.h X hX) (hs X.env) (hw X.env) (h1 X.env)) fun D σ H ⟨c, F, R, q1, _⟩ => ⟨c, F, R, fun v H' F' R' e' ok _ => ⟨c, B1, F', R', ok, fun σ' R2 _ => q1 ρ' B1 σ' H' F' R2 e' h⟩⟩⟩
/-- a, b = x, y -/
theorem ex_par {i j : Nat} {n2 : Str} {px py pt : Pos} {kt k2 pt2} (s1 : St1 g i n) (s2 : St1 g j n2) (hij : i ≠ j) (l1 : g.sc.names.lookup n = some .local) (l2 : g.sc.names.lookup n2 = some .local) (ha : Evs g [a, b] ρ B [x, y] B1) (h : E.nx ((ρ.set i (.d x)).set j (.d y)) B1)
    (hw : ∀ env : Env, env.scope = g.sc → swappedStores [.Tuple [.Name n px, .Name n2 py] kt pt] (.Tuple [a, b] k2 pt2) env = pure (some [n, n2]))
    (hs : ∀ env : Env, swapsWithSole [.Tuple [.Name n px, .Name n2 py] kt pt] (.Tuple [a, b] k2 pt2) pos.line env = pure false := by intro _; rfl) : Ex g (.Assign [.Tuple [.Name n px, .Name n2 py] kt pt] (.Tuple [a, b] k2 pt2) pos) ρ B E :=
  ⟨fun X hX => PS.imp (ps_par (X := X) hX.calm (by rw [hX.hN]; exact hX.nd) (by rw [hX.hN]; exact s1.ix) (by rw [hX.hN]; exact s2.ix) hij (by rw [hX.hs]; exact l1) (by rw [hX.hs]; exact l2) (ha.h X hX) (hw X.env hX.hs) (hs X.env)) fun D σ H ⟨c, F, R, q1, _⟩ =>
    ⟨c, F, R, fun vs H' F' R' e' hv => by
      obtain ⟨v, w, rfl, h1, h2⟩ := all2 hv
      exact ⟨v, w, rfl, q1 _ B1 _ H' F' ((R'.set (r := .d x) h1 apart_d i).set (r := .d y) h2 apart_d j) e' h⟩⟩⟩
end
end PD
namespace PD
open PySem PySem.Spec PyProof.Rows L2 RZ

/-! ### what is walked -/
structure WalkD (K : PySem.W.Frag) (β : Option Addr) (J : It) (ds : List D) (F1 : Hp) : Prop where
  goes : ∀ i H, i < ds.length → Same F1 H → J.go i H
  stops : ∀ H, Same F1 H → J.stop ds.length H
  yields : ∀ i H x H', i < ds.length → Same F1 H → J.yld i H x H' → ∃ d, ds[i]? = some d ∧
    ((H' = H ∧ Rep K β F1 d x) ∨ ∃ T vs ds', x = .ref T ∧ H T = none ∧ H' = upd H T (.tup vs) ∧ vs.length ≤ sizeLine ∧ d = .tup ds' ∧ RepAll K β F1 ds' vs)
structure ItD (g : G) (tg iter : Expr) (ρ : Rho) (B : Bag) (ds : List D) (B' : Bag) : Prop where
  h : ∀ X, At g X → ∃ wi : TI, PI X tg iter wi ∧ ∀ (c : C0) (σ : L2.St) (H F : Hp) (Re : It → Hp → Prop), Rel g.T.K c ρ B σ H F →
    (∀ J H1 F1, Rel g.T.K c ρ B' σ H1 F1 → Same F F1 → WalkD g.T.K c.β J ds F1 → Re J H1) → wi σ H Re
section
variable {K : PySem.W.Frag} {c : C0} {ρ : Rho} {B B' : Bag} {σ : L2.St} {H H' F F1 : Hp} {ds : List D} {J : It}
theorem walk_step (w : WalkD K c.β J ds F1) (R : Rel K c ρ B σ H F) (e : Same F1 F) {i : Nat} {x : V} (hi : i < ds.length) (y : J.yld i H x H') : ∃ d F', ds[i]? = some d ∧ Rel K c ρ B σ H' F' ∧ Same F F' ∧ Rep K c.β F' d x := by
  obtain ⟨d, hd, h⟩ := w.yields i H x H' hi (e.trans R.sub) y
  rcases h with ⟨rfl, h⟩ | ⟨T, vs, ds', rfl, nT, rfl, hl, rfl, h⟩
  · exact ⟨d, F, hd, R, Same.refl F, h.mono e⟩
  · obtain ⟨R2, e2⟩ := R.new (o := .tup vs) nT
    exact ⟨_, _, hd, R2, e2, .tup (.inl (.inl upd_same)) hl (h.mono (e.trans e2))⟩
theorem walkD_list {a : Addr} {vs : List V} (h : SqL K F1 a vs) (hr : RepAll K c.β F1 ds vs) : WalkD K c.β (Itl K a) ds F1 :=
  ⟨fun i H hi e => by
    have hl := hr.length
    exact ⟨vs, vs[i]'(by omega), e.seq h, by simp [show i < vs.length by omega]⟩, fun H e => ⟨vs, e.seq h, by rw [hr.length]; exact Nat.le_refl _⟩, fun i H x H' hi e y => by
    obtain ⟨rfl, y⟩ := y
    obtain ⟨d, hd, r⟩ := hr.get' (y vs (e.seq h))
    exact ⟨d, hd, .inl ⟨rfl, r⟩⟩⟩
theorem walkD_tup {a : Addr} {vs : List V} (h : SqT K F1 a vs) (hr : RepAll K c.β F1 ds vs) : WalkD K c.β (Itt K a) ds F1 :=
  ⟨fun i H hi e => by
    have hl := hr.length
    exact ⟨vs, vs[i]'(by omega), Same.seqT e h, by simp [show i < vs.length by omega]⟩, fun H e => ⟨vs, Same.seqT e h, by rw [hr.length]; exact Nat.le_refl _⟩, fun i H x H' hi e y => by
    obtain ⟨rfl, y⟩ := y
    obtain ⟨d, hd, r⟩ := hr.get' (y vs (Same.seqT e h))
    exact ⟨d, hd, .inl ⟨rfl, r⟩⟩⟩
def rgD (lo : Int) (n : Nat) : List D := (List.range n).map fun i => .int (lo + (i : Nat))
theorem rgD_length (lo : Int) (n : Nat) : (rgD lo n).length = n := by unfold rgD; rw [List.length_map, List.length_range]
theorem rgD_get {lo : Int} {n i : Nat} (h : i < n) : (rgD lo n)[i]? = some (.int (lo + (i : Nat))) := by
  unfold rgD
  rw [List.getElem?_map, List.getElem?_range h]
  rfl
theorem walkD_range {lo : Int} {n : Nat} : WalkD K c.β (Itr lo n) (rgD lo n) F1 :=
  ⟨fun i H hi e => by rw [rgD_length] at hi; exact hi, fun H e => by rw [rgD_length]; exact Nat.le_refl n, fun i H x H' hi e y => by
    obtain ⟨rfl, rfl⟩ := y
    rw [rgD_length] at hi
    exact ⟨_, rgD_get hi, .inl ⟨rfl, .int _⟩⟩⟩
def zipD (xs ys : List D) : List D := (xs.zip ys).map fun p => .tup [p.1, p.2]
theorem zipD_length (xs ys : List D) : (zipD xs ys).length = min xs.length ys.length := by unfold zipD; rw [List.length_map, List.length_zip]
theorem zipD_get {xs ys : List D} {i : Nat} {x y : D} (h1 : xs[i]? = some x) (h2 : ys[i]? = some y) : (zipD xs ys)[i]? = some (.tup [x, y]) := by
  unfold zipD
  rw [List.getElem?_map, (List.getElem?_zip_eq_some (z := (x, y))).mpr ⟨h1, h2⟩]
  rfl
theorem len2 : (2 : Nat) ≤ sizeLine := by rw [sizeLine_eq]; decide
theorem walkD_zipL {a b : Addr} {vs ws : List V} {ys : List D} (h : SqL K F1 a vs) (hr : RepAll K c.β F1 ds vs) (h' : SqL K F1 b ws) (hr' : RepAll K c.β F1 ys ws) : WalkD K c.β (Itz K a b) (zipD ds ys) F1 :=
  ⟨fun i H hi e => by
    have hl := hr.length
    have hl' := hr'.length
    rw [zipD_length] at hi
    exact ⟨vs, ws, vs[i]'(by omega), ws[i]'(by omega), e.seq h, e.seq h', by simp [show i < vs.length by omega], by simp [show i < ws.length by omega]⟩, fun H e => ⟨vs, ws, e.seq h, e.seq h', by rw [zipD_length, hr.length, hr'.length]; omega⟩, fun i H x H' hi e y => by
    obtain ⟨T, x1, x2, rfl, nT, rfl, f1, f2⟩ := y
    obtain ⟨d1, hd1, r1⟩ := hr.get' (f1 vs (e.seq h))
    obtain ⟨d2, hd2, r2⟩ := hr'.get' (f2 ws (e.seq h'))
    exact ⟨_, zipD_get hd1 hd2, .inr ⟨T, _, _, rfl, nT, rfl, len2, rfl, .cons r1 (.cons r2 .nil)⟩⟩⟩
theorem walkD_zipT {a b : Addr} {vs ws : List V} {ys : List D} (h : SqT K F1 a vs) (hr : RepAll K c.β F1 ds vs) (h' : SqT K F1 b ws) (hr' : RepAll K c.β F1 ys ws) : WalkD K c.β (ItzT K a b) (zipD ds ys) F1 :=
  ⟨fun i H hi e => by
    have hl := hr.length
    have hl' := hr'.length
    rw [zipD_length] at hi
    exact ⟨vs, ws, vs[i]'(by omega), ws[i]'(by omega), Same.seqT e h, Same.seqT e h', by simp [show i < vs.length by omega], by simp [show i < ws.length by omega]⟩, fun H e => ⟨vs, ws, Same.seqT e h, Same.seqT e h', by rw [zipD_length, hr.length, hr'.length]; omega⟩, fun i H x H' hi e y => by
    obtain ⟨T, x1, x2, rfl, nT, rfl, f1, f2⟩ := y
    obtain ⟨d1, hd1, r1⟩ := hr.get' (f1 vs (Same.seqT e h))
    obtain ⟨d2, hd2, r2⟩ := hr'.get' (f2 ws (Same.seqT e h'))
    exact ⟨_, zipD_get hd1 hd2, .inr ⟨T, _, _, rfl, nT, rfl, len2, rfl, .cons r1 (.cons r2 .nil)⟩⟩⟩
def enD (xs : List D) : List D := xs.zipIdx.map fun p => .tup [.int (p.2 : Nat), p.1]
theorem enD_length (xs : List D) : (enD xs).length = xs.length := by unfold enD; rw [List.length_map, List.length_zipIdx]
theorem enD_get {xs : List D} {i : Nat} {x : D} (h : xs[i]? = some x) : (enD xs)[i]? = some (.tup [.int (i : Nat), x]) := by
  unfold enD
  rw [List.getElem?_map, List.getElem?_zipIdx, h]
  simp
theorem walkD_enumL {a : Addr} {vs : List V} (h : SqL K F1 a vs) (hr : RepAll K c.β F1 ds vs) : WalkD K c.β (Ite K a) (enD ds) F1 :=
  ⟨fun i H hi e => by
    have hl := hr.length
    rw [enD_length] at hi
    exact ⟨vs, vs[i]'(by omega), e.seq h, by simp [show i < vs.length by omega]⟩, fun H e => ⟨vs, e.seq h, by rw [enD_length, hr.length]; exact Nat.le_refl _⟩, fun i H x H' hi e y => by
    obtain ⟨T, x1, rfl, nT, rfl, f1⟩ := y
    obtain ⟨d1, hd1, r1⟩ := hr.get' (f1 vs (e.seq h))
    exact ⟨_, enD_get hd1, .inr ⟨T, _, _, rfl, nT, rfl, len2, rfl, .cons (.int _) (.cons r1 .nil)⟩⟩⟩
end

section
variable {g : G} {ρ : Rho} {B B1 B2 B3 : Bag} {a b e tg iter : Expr} {pos p tpos : Pos} {x y z d : D} {es elts : List Expr} {ds : List D} {n : Str} {kk : Nat}
theorem it_seq (he : Ev g e ρ B x B1) (hx : x.seq = some ds) : ItD g tg e ρ B ds B1 := by
  refine ⟨fun X hX => ?_⟩
  cases x with
  | lst xs =>
    cases hx
    refine ⟨_, pi_list (he.h X hX), fun c σ H F Re R q => ⟨c, F, R, fun v H' F' R' e' ok _ => ?_⟩⟩
    cases ok with
    | lst h1 h2 h3 => exact ⟨_, rfl, ⟨_, SqL.sub R'.sub h1⟩, q _ H' F' R' e' (by rw [hX.hK]; exact walkD_list (.inl (.inl h1)) h3)⟩
  | tup xs =>
    cases hx
    refine ⟨_, pi_tup (he.h X hX), fun c σ H F Re R q => ⟨c, F, R, fun v H' F' R' e' ok _ => ?_⟩⟩
    cases ok with
    | tup h1 h2 h3 => exact ⟨_, rfl, ⟨_, by rw [hX.hK]; exact Same.seqT R'.sub h1⟩, q _ H' F' R' e' (by rw [hX.hK]; exact walkD_tup h1 h3)⟩
  | _ => cases hx
theorem it_range1 {m : Nat} (hg : Glb g "range") (hm : g.T.mg "range" = none) (ha : Ev g a ρ B (.int (m : Nat)) B1) (hl : m ≤ 1000000) (hs : ∀ env : Env, starEach [a] env = [(false, eval a env)] := by intro _; rfl) : ItD g tg (.Call (.Name "range" p) [a] [] pos) ρ B (rgD 0 m) B1 := by
  refine ⟨fun X hX => ?_⟩
  refine ⟨_, pi_range1 (hg.at hX) (by rw [hX.hm]; exact hm) ((evs_cons ha evs_nil hs).h X hX) (hs X.env), fun c σ H F Re R q => ⟨c, F, R, fun vs H' F' R' e' h => ?_⟩⟩
  obtain ⟨v, rfl, h1⟩ := all1 h
  cases h1
  exact ⟨_, rfl, by omega, by omega, q _ H' F' R' e' (by rw [show ((m : Nat) : Int).toNat = m from Int.toNat_natCast m]; exact walkD_range)⟩
theorem it_range2 {i j : Int} (hg : Glb g "range") (hm : g.T.mg "range" = none) (ha : Ev g a ρ B (.int i) B1) (hb : Ev g b ρ B1 (.int j) B2) (h1 : -1000000 ≤ i ∧ i ≤ 1000000) (h2 : -1000000 ≤ j ∧ j ≤ 1000000) (hs : ∀ env : Env, starEach [a, b] env = [(false, eval a env), (false, eval b env)] := by intro _; rfl) (hs2 : ∀ env : Env, starEach [b] env = [(false, eval b env)] := by intro _; rfl) : ItD g tg (.Call (.Name "range" p) [a, b] [] pos) ρ B (rgD i (j - i).toNat) B2 := by
  refine ⟨fun X hX => ?_⟩
  refine ⟨_, pi_range2 (hg.at hX) (by rw [hX.hm]; exact hm) ((evs_cons ha (evs_cons hb evs_nil hs2) fun env => by rw [hs, hs2]).h X hX) (hs X.env) (hs2 X.env), fun c σ H F Re R q => ⟨c, F, R, fun vs H' F' R' e' h => ?_⟩⟩
  obtain ⟨v, w, rfl, h3, h4⟩ := all2 h
  cases h3
  cases h4
  exact ⟨_, _, rfl, ⟨by omega, by omega, by omega, by omega⟩, q _ H' F' R' e' walkD_range⟩
theorem it_zipL {xs ys : List D} (hg : Glb g "zip") (hm : g.T.mg "zip" = none) (ha : Ev g a ρ B (.lst xs) B1) (hb : Ev g b ρ B1 (.lst ys) B2) (hs : ∀ env : Env, starEach [a, b] env = (false, eval a env) :: starEach [b] env := by intro _; rfl) (hpl : ∀ env : Env, (backTo pos (starEach [b] env)).any (·.1) = false := by intro _; rfl)
    (hs2 : ∀ env : Env, starEach [b] env = (false, eval b env) :: starEach [] env := by intro _; rfl) : ItD g (.Tuple elts kk tpos) (.Call (.Name "zip" p) [a, b] [] pos) ρ B (zipD xs ys) B2 := by
  refine ⟨fun X hX => ?_⟩
  refine ⟨_, pi_zipA (hg.at hX) (by rw [hX.hm]; exact hm) ((evs_cons ha (evs_cons hb evs_nil hs2) hs).h X hX) (hs X.env) (hpl X.env), fun c σ H F Re R q => ⟨c, F, R, fun vs H' F' R' e' h => ?_⟩⟩
  obtain ⟨v, w, rfl, h3, h4⟩ := all2 h
  cases h3 with
  | lst u1 u2 u3 =>
    cases h4 with
    | lst w1 w2 w3 => exact ⟨_, _, _, _, rfl, .inl ⟨SqL.sub R'.sub u1, SqL.sub R'.sub w1, q _ H' F' R' e' (by rw [hX.hK]; exact walkD_zipL (.inl (.inl u1)) u3 (.inl (.inl w1)) w3)⟩⟩
theorem it_zipT {xs ys : List D} (hg : Glb g "zip") (hm : g.T.mg "zip" = none) (ha : Ev g a ρ B (.tup xs) B1) (hb : Ev g b ρ B1 (.tup ys) B2) (hs : ∀ env : Env, starEach [a, b] env = (false, eval a env) :: starEach [b] env := by intro _; rfl) (hpl : ∀ env : Env, (backTo pos (starEach [b] env)).any (·.1) = false := by intro _; rfl)
    (hs2 : ∀ env : Env, starEach [b] env = (false, eval b env) :: starEach [] env := by intro _; rfl) : ItD g (.Tuple elts kk tpos) (.Call (.Name "zip" p) [a, b] [] pos) ρ B (zipD xs ys) B2 := by
  refine ⟨fun X hX => ?_⟩
  refine ⟨_, pi_zipA (hg.at hX) (by rw [hX.hm]; exact hm) ((evs_cons ha (evs_cons hb evs_nil hs2) hs).h X hX) (hs X.env) (hpl X.env), fun c σ H F Re R q => ⟨c, F, R, fun vs H' F' R' e' h => ?_⟩⟩
  obtain ⟨v, w, rfl, h3, h4⟩ := all2 h
  cases h3 with
  | tup u1 u2 u3 =>
    cases h4 with
    | tup w1 w2 w3 => exact ⟨_, _, _, _, rfl, .inr ⟨by rw [hX.hK]; exact Same.seqT R'.sub u1, by rw [hX.hK]; exact Same.seqT R'.sub w1, q _ H' F' R' e' (by rw [hX.hK]; exact walkD_zipT u1 u3 w1 w3)⟩⟩
theorem it_enumL {xs : List D} (hg : Glb g "enumerate") (hm : g.T.mg "enumerate" = none) (ha : Ev g a ρ B (.lst xs) B1) (hs : ∀ env : Env, starEach [a] env = [(false, eval a env)] := by intro _; rfl) : ItD g (.Tuple elts kk tpos) (.Call (.Name "enumerate" p) [a] [] pos) ρ B (enD xs) B1 := by
  refine ⟨fun X hX => ?_⟩
  refine ⟨_, pi_enum (hg.at hX) (by rw [hX.hm]; exact hm) ((evs_cons ha evs_nil hs).h X hX) (hs X.env), fun c σ H F Re R q => ⟨c, F, R, fun vs H' F' R' e' h => ?_⟩⟩
  obtain ⟨v, rfl, h3⟩ := all1 h
  cases h3 with
  | lst u1 u2 u3 => exact ⟨_, _, rfl, SqL.sub R'.sub u1, q _ H' F' R' e' (by rw [hX.hK]; exact walkD_enumL (.inl (.inl u1)) u3)⟩

/-! ### for -/
theorem ex_for {body : List Stmt} {E : En} (hi : ItD g tg iter ρ B ds B1) (J : Nat → Rho → Bag → Prop) (h0 : J 0 ρ B1)
    (hs : ∀ i d ρ' B', ds[i]? = some d → J i ρ' B' → ∃ ρ'' is, Tg g tg ρ' d ρ'' is ∧ Exs g body ρ'' B' ⟨J (i + 1), E.rt, E.nx, J (i + 1)⟩) (hd : ∀ ρ' B', J ds.length ρ' B' → E.nx ρ' B')
    (hf : ∀ (env : Env) x, foldedSetIterable iter env x = pure x := by intro _ _; rfl) : Ex g (.For tg iter body [] pos) ρ B E := by
  refine ⟨fun X hX => ?_⟩
  obtain ⟨wi, pi, qi⟩ := hi.h X hX
  have pg : PG X tg (fun v σ H Q => ∃ ρ' d ρ'' is, Tg g tg ρ' d ρ'' is ∧ tTg g.T.K ρ' d ρ'' is v σ H Q) := ⟨fun pins s σ H v u Q I r ⟨ρ', d, ρ'', is, ht, q⟩ => (ht.h X hX).run pins s σ H v u Q I r q⟩
  have pb : PSs X body (fun D σ H => ∃ ρ' B' E', Exs g body ρ' B' E' ∧ tEx g.T.K ρ' B' E' D σ H) := ⟨fun pins s σ H D I ⟨ρ', B', E', hb, q⟩ => (hb.h X hX).run pins s σ H D I q⟩
  refine PS.imp (ps_for hX.own hX.calm pi pg pb (hf X.env)) fun D σ H ⟨c, F, R, q1, q2, q3, q4⟩ => ?_
  refine qi c σ H F _ R fun J1 H1 F1 R1 e1 w => ?_
  refine ⟨fun i m σ' H' => m = ds.length - i ∧ i ≤ ds.length ∧ ∃ ρ' B' F', Rel g.T.K c ρ' B' σ' H' F' ∧ Same F1 F' ∧ J i ρ' B', ⟨_, rfl, Nat.zero_le _, ρ, B1, F1, R1, Same.refl F1, h0⟩, ?_⟩
  rintro i m σ' H' ⟨rfl, hle, ρ', B', F', R', e', hJ⟩
  by_cases hlt : i < ds.length
  · refine .inr ⟨w.goes i H' hlt (e'.trans R'.sub), fun σ2 H2 => ∃ ρ2 B2 F2, Rel g.T.K c ρ2 B2 σ2 H2 F2 ∧ Same F1 F2 ∧ J (i + 1) ρ2 B2, fun σ2 H2 ⟨ρ2, B2, F2, R2, e2, h2⟩ => ⟨ds.length - (i + 1), by omega, rfl, hlt, ρ2, B2, F2, R2, e2, h2⟩, fun v H2 y => ?_⟩
    obtain ⟨d, F2, hd, R2, e2, hrep⟩ := walk_step w R' e' hlt y
    obtain ⟨ρ'', is, ht, hb⟩ := hs i d ρ' B' hd hJ
    refine ⟨ρ', d, ρ'', is, ht, c, B', F2, R2, hrep, fun σ3 R3 _ => ⟨ρ'', B', _, hb, c, F2, R3, ?_, ?_, ?_, ?_⟩⟩
    · exact fun ρ4 B4 σ4 H4 F4 R4 e4 h4 => ⟨ρ4, B4, F4, R4, (e'.trans e2).trans e4, h4⟩
    · exact q2.mono ((e1.trans e').trans e2) fun _ _ z => z
    · exact q1.mono ((e1.trans e').trans e2) fun _ _ z => z
    · exact fun ρ4 B4 σ4 H4 F4 R4 e4 h4 => ⟨ρ4, B4, F4, R4, (e'.trans e2).trans e4, h4⟩
  · have hie : i = ds.length := by omega
    subst hie
    exact .inl ⟨w.stops H' (e'.trans R'.sub), q1 ρ' B' σ' H' F' R' (e1.trans e') (hd ρ' B' hJ)⟩

/-! ### list comprehensions -/
theorem wipe_sub {σ : L2.St} {vs : List Nat} : ∀ {us : List Nat}, (∀ u ∈ us, u ∈ vs) → wipe (wipe σ us) vs = wipe σ vs
  | [], _ => rfl
  | u :: us, h => by
    show wipe ((wipe σ us).set u none) vs = _
    rw [wipe_set (h u List.mem_cons_self)]
    exact wipe_sub fun w hw => h w (List.mem_cons_of_mem _ hw)
theorem wipe_wipe {σ : L2.St} {vs : List Nat} : wipe (wipe σ vs) vs = wipe σ vs := wipe_sub fun _ h => h
/-- own things out of sight -/
def Sl.noOwn : Sl → Sl
  | .o _ => .u
  | s => s
def noOwn (ρ : Rho) : Rho := ρ.map Sl.noOwn
theorem noOwn_d {ρ : Rho} {i : Nat} {x : D} (h : (noOwn ρ)[i]? = some (.d x)) : ρ[i]? = some (.d x) := by
  unfold noOwn at h
  rw [List.getElem?_map] at h
  obtain ⟨s, h1, h2⟩ := Option.map_eq_some_iff.mp h
  cases s with
  | d y => cases h2; exact h1
  | _ => cases h2
theorem noOwn_o {ρ : Rho} {i : Nat} {ct : Ct} (h : (noOwn ρ)[i]? = some (.o ct)) : False := by
  unfold noOwn at h
  rw [List.getElem?_map] at h
  obtain ⟨s, h1, h2⟩ := Option.map_eq_some_iff.mp h
  cases s <;> cases h2
section
variable {K : PySem.W.Frag} {c : C0} {σ σ' : L2.St} {H H' F F' : Hp}
theorem Rel.enter (R : Rel K c ρ B σ H F) : Rel K ⟨c.β, H, F⟩ (noOwn ρ) B σ H F where
  len := by unfold noOwn; rw [List.length_map]; exact R.len
  fr := fun b o _ h => h
  gr := Same.refl F
  dj := fun b _ h => h
  sub := R.sub
  bag := fun a h => ⟨(R.bag a h).1, (by show H a ≠ none; rw [(R.bag a h).1]; exact fun z => nomatch z), R.F_bag h⟩
  dat := fun i x h => R.dat i x (noOwn_d h)
  own := fun i ct h => (noOwn_o h).elim
  sep := fun i j ct ct' p h => (noOwn_o h).elim
theorem Rel.leave {ρ' : Rho} {B' : Bag} (R : Rel K c ρ B σ H F) (R' : Rel K ⟨c.β, H, F⟩ ρ' B' σ' H' F') : Rel K c ρ B' σ H' F' :=
  rel_call R R'.fr R'.gr R'.dj R'.sub fun a h => (R'.bag a h).1
end
/-- a thing that no slot holds is written -/
theorem Rel.wr {K : PySem.W.Frag} {c : C0} {σ : L2.St} {H F : Hp} {p : Addr} {o : HO} (R : Rel K c ρ B σ H F) (n0 : c.H0 p = none) (nF : F p = none) (ap : ∀ (i : Nat) (ct : Ct) (q : Addr), ρ[i]? = some (.o ct) → σ[i]? = some (some (.ref q)) → q ≠ p) : Rel K c ρ B σ (upd H p o) F where
  len := R.len
  fr := fun b u hb h => by rw [upd_ne (ne_of_none h n0)]; exact R.fr b u hb h
  gr := R.gr
  dj := R.dj
  sub := fun b u h => by rw [upd_ne (ne_of_none h nF)]; exact R.sub b u h
  bag := fun a h => ⟨by rw [upd_ne (fun z => (R.bag a h).2.1 (by rw [z]; exact n0))]; exact (R.bag a h).1, (R.bag a h).2⟩
  dat := R.dat
  own := fun i ct h => by
    obtain ⟨q, h1, ⟨ho, h2, h3⟩, h4, h5⟩ := R.own i ct h
    exact ⟨q, h1, ⟨ho, by rw [upd_ne (ap i ct q h h1)]; exact h2, h3⟩, h4, h5⟩
  sep := R.sep
inductive LcRun (S : D → Bag → Option D → Bag → Prop) : List D → Bag → List D → Bag → Prop
  | nil {B : Bag} : LcRun S [] B [] B
  | keep {d y : D} {ds out : List D} {B B1 B2 : Bag} : S d B (some y) B1 → LcRun S ds B1 out B2 → LcRun S (d :: ds) B (y :: out) B2
  | drop {d : D} {ds out : List D} {B B1 B2 : Bag} : S d B none B1 → LcRun S ds B1 out B2 → LcRun S (d :: ds) B out B2
/-- a clause's tests -/
structure TsL (g : G) (ifs : List Expr) (ρ : Rho) (B : Bag) (b : Bool) (B' : Bag) : Prop where
  h : ∀ X, At g X → PTs X ifs (tTs g.T.K ρ B b B')
theorem PTs.imp {X : Cx} {e : List Expr} {t t' : TT} (h : PTs X e t) (w : ∀ σ H Q, t' σ H Q → t σ H Q) : PTs X e t' := ⟨fun pins s σ H Q I q => h.run pins s σ H Q I (w σ H Q q)⟩
theorem tsl_nil : TsL g [] ρ B true B := ⟨fun X hX => PTs.imp pts_nil fun σ H Q ⟨c, F, R, q⟩ => q H F R (Same.refl F)⟩
theorem tsl_one {k : Bool} (h : Ts g e ρ B k B1) : TsL g [e] ρ B k B1 := ⟨fun X hX => pts_one (h.h X hX)⟩
def blkG (g : G) (scope : Scope) : G := ⟨g.T, g.N, relS scope g.sc, g.k, fun x => scope.names.lookup x == some .cell⟩
theorem At.blk {X : Cx} (hX : At g X) (scope : Scope) (s : Shared) (H : Hp) (C : Addr) (cl : List (Str × Addr)) (fp : List Addr) : At (blkG g scope) (X.blk s H scope (compEnvC scope cl C X.env) fp) where
  hP := hX.hP
  hw := hX.hw
  hK := hX.hK
  hm := hX.hm
  hb := hX.hb
  hN := hX.hN
  hs := by show relS scope X.env.scope = relS scope g.sc; rw [hX.hs]
  nd := hX.nd
  calm := hX.calm
  room := hX.room
  cell := fun x h => h
  own := PassesOwn.never
/-- what a turn of a comprehension does -/
def LcTurn (g : G) (tg elt : Expr) (ifs : List Expr) (ρ : Rho) (is : List Nat) (d : D) (Ba : Bag) (o : Option D) (Bb : Bag) : Prop :=
  ∃ ρ' js b Bm, Tg g tg ρ d ρ' js ∧ (∀ i ∈ js, i ∈ is) ∧ TsL g ifs ρ' Ba b Bm ∧ match o with
    | some y => b = true ∧ Ev g elt ρ' Bm y Bb
    | none => b = false ∧ Bb = Bm
/-- the parts' readings, at whatever state the parts are told -/
def rdG (g : G) (tg : Expr) : TG := fun v σ H Q => ∃ ρ' d ρ'' js, Tg g tg ρ' d ρ'' js ∧ tTg g.T.K ρ' d ρ'' js v σ H Q
def rdT (g : G) (ifs : List Expr) : TT := fun σ H Q => ∃ ρ' Ba b Bm, TsL g ifs ρ' Ba b Bm ∧ tTs g.T.K ρ' Ba b Bm σ H Q
def rdE (g : G) (elt : Expr) : TE := fun σ H Q => ∃ ρ' Ba y Bb, Ev g elt ρ' Ba y Bb ∧ tEv g.T.K ρ' Ba (.d y) Bb σ H Q
theorem rdG_ok {X : Cx} (hX : At g X) : PG X tg (rdG g tg) := ⟨fun pins s' σ H' v u Q I r ⟨ρ', d, ρ'', js, ht, q⟩ => (ht.h _ hX).run pins s' σ H' v u Q I r q⟩
theorem rdT_ok {X : Cx} {ifs : List Expr} (hX : At g X) : PTs X ifs (rdT g ifs) := ⟨fun pins s' σ H' Q I ⟨ρ', Ba, b, Bm, ht, q⟩ => (ht.h _ hX).run pins s' σ H' Q I q⟩
theorem rdE_ok {X : Cx} {elt : Expr} (hX : At g X) : PE X elt (rdE g elt) := ⟨fun pins s' σ H' Q I ⟨ρ', Ba, b, Bm, ht, q⟩ => (ht.h _ hX).run pins s' σ H' Q I q⟩
theorem lc_read {elt : Expr} {ifs : List Expr} {scope : Scope} {own : List (Str × Nat)} {out : List D} {ρb : Rho} {wi : TI} {σ : L2.St} {H : Hp} {Q : VK} (hρ : noOwn (fgt ρ (own.map (·.2))) = ρb)
    (qi : ∀ (c : C0) (σ : L2.St) (H F : Hp) (Re : It → Hp → Prop), Rel g.T.K c ρ B σ H F → (∀ J H1 F1, Rel g.T.K c ρ B1 σ H1 F1 → Same F F1 → WalkD g.T.K c.β J ds F1 → Re J H1) → wi σ H Re)
    (run : LcRun (LcTurn (blkG g scope) tg elt ifs ρb (own.map (·.2))) ds B1 out B2) (hlen : ds.length ≤ 1000000) (h : tEv g.T.K ρ B (.o (.l out)) B2 σ H Q) :
    tLc wi (rdG (blkG g scope) tg) (rdT (blkG g scope) ifs) (rdE (blkG g scope) elt) (own.map (·.2)) σ H Q := by
  have hz : (sizeLine : Nat) = 16777216 := sizeLine_eq
  obtain ⟨c, F, R, q⟩ := h
  refine qi c σ H F _ R fun J1 H1 F1 R1 e1 w => ?_
  intro D nD
  refine ⟨fun i m H' => m = ds.length - i ∧ i ≤ ds.length ∧ ∃ F' done vs Bi rest, Rel g.T.K c ρ Bi σ H' F' ∧ Same F1 F' ∧ H' D = some (.lst vs) ∧ F' D = none ∧ RepAll g.T.K c.β F' done vs ∧ vs.length ≤ i ∧
      LcRun (LcTurn (blkG g scope) tg elt ifs ρb (own.map (·.2))) (ds.drop i) Bi rest B2 ∧ done ++ rest = out, ⟨_, rfl, Nat.zero_le _, F1, [], [], B1, out, R1.newO nD, Same.refl F1, upd_same, R1.F_none nD, .nil, Nat.zero_le _, run, rfl⟩, ?_⟩
  have n0 : c.H0 D = none := R1.H0_none nD
  have hap : ∀ (i : Nat) (ct : Ct) (q : Addr), ρ[i]? = some (.o ct) → σ[i]? = some (some (.ref q)) → q ≠ D := fun i ct p h1 h2 z => R1.apart (r := .o ct) nD ct rfl i ct p h1 h2 (by rw [z])
  rintro i m H' ⟨rfl, hle, F', done, vs, Bi, rest, R', e', hD, nF, hr, hvl, hrun, hout⟩
  by_cases hlt : i < ds.length
  · have Re := R'.enter
    have sm : Same F1 H' := e'.trans R'.sub
    have nb : some D ≠ c.β := R'.H_none n0
    refine .inr ⟨w.goes i H' hlt sm, fun H2 => ∃ F2 done vs Bi rest, Rel g.T.K c ρ Bi σ H2 F2 ∧ Same F1 F2 ∧ H2 D = some (.lst vs) ∧ F2 D = none ∧ RepAll g.T.K c.β F2 done vs ∧ vs.length ≤ i + 1 ∧
      LcRun (LcTurn (blkG g scope) tg elt ifs ρb (own.map (·.2))) (ds.drop (i + 1)) Bi rest B2 ∧ done ++ rest = out, fun H2 h2 => ⟨ds.length - (i + 1), by omega, rfl, hlt, h2⟩, fun v H2 y => ?_⟩
    -- the block's own state
    have Rb : Rel g.T.K ⟨c.β, H', F'⟩ ρb Bi (wipe σ (own.map (·.2))) H' F' := by
      rw [← hρ]
      exact (R'.fgt _).enter
    obtain ⟨d, F2, hd, R2, e2, hrep⟩ := walk_step (c := ⟨c.β, H', F'⟩) w Rb e' hlt y
    have hdrop : ds.drop i = d :: ds.drop (i + 1) := by
      obtain ⟨hl, he⟩ := List.getElem?_eq_some_iff.mp hd
      rw [List.drop_eq_getElem_cons hl, he]
    rw [hdrop] at hrun
    have keepD : ∀ {ρ2 : Rho} {B2 : Bag} {σ2 : L2.St} {H3 F3 : Hp}, Rel g.T.K ⟨c.β, H', F'⟩ ρ2 B2 σ2 H3 F3 → H3 D = some (.lst vs) ∧ F3 D = none := fun R3 =>
      ⟨R3.fr D _ nb hD, R3.dj D (by show H' D ≠ none; rw [hD]; exact fun z => nomatch z) nF⟩
    cases hrun with
    | @keep _ yy _ out' _ Bb _ hS hrest =>
      obtain ⟨ρ', js, b, Bm, ht, hjs, htt, hbt, hel⟩ := hS
      subst hbt
      refine ⟨ρb, d, ρ', js, ht, _, Bi, F2, R2, hrep, fun σ3 R3 hw => ⟨(hw _ hjs).trans wipe_wipe, ρ', Bi, true, Bm, htt, _, F2, R3, fun H4 F4 R4 e4 => iteT ⟨ρ', Bm, yy, Bb, hel, _, F4, R4, fun u H5 F5 R5 e5 hu _ => ?_⟩⟩⟩
      obtain ⟨hD5, nF5⟩ := keepD R5
      have RL := R'.leave R5
      refine ⟨vs, hD5, by omega, ?_⟩
      have e15 : Same F' F5 := (e2.trans e4).trans e5
      have RL2 : Rel g.T.K c ρ Bb σ (upd H5 D (.lst (vs ++ [u]))) F5 := RL.wr n0 nF5 hap
      exact ⟨F5, done ++ [yy], vs ++ [u], Bb, out', RL2, e'.trans e15, upd_same, nF5, (hr.mono e15).append (.cons hu .nil), by rw [List.length_append]; simp; omega, hrest, by rw [← hout]; simp⟩
    | @drop _ _ _ _ Bb _ hS hrest =>
      obtain ⟨ρ', js, b, Bm, ht, hjs, htt, hbt, hel⟩ := hS
      subst hbt
      subst hel
      refine ⟨ρb, d, ρ', js, ht, _, Bi, F2, R2, hrep, fun σ3 R3 hw => ⟨(hw _ hjs).trans wipe_wipe, ρ', Bi, false, Bb, htt, _, F2, R3, fun H4 F4 R4 e4 => iteF ?_⟩⟩
      obtain ⟨hD4, nF4⟩ := keepD R4
      exact ⟨F4, done, vs, Bb, rest, R'.leave R4, (e'.trans e2).trans e4, hD4, nF4, hr.mono (e2.trans e4), by omega, hrest, hout⟩
  · have hie : i = ds.length := by omega
    subst hie
    rw [List.drop_length] at hrun
    cases hrun
    rw [List.append_nil] at hout
    subst hout
    refine .inl ⟨w.stops H' (e'.trans R'.sub), q (.ref D) H' F' R' (e1.trans e') ⟨D, rfl, ⟨_, hD, ⟨vs, rfl, by omega, hr⟩⟩, n0, nF⟩ fun _ _ i ct p h1 h2 z => hap i ct p h1 h2 (V.ref.inj z).symm⟩
theorem evr_lc {elt : Expr} {ifs : List Expr} {scope : Scope} {own : List (Str × Nat)} {out : List D} {ρb : Rho} (hi : ItD g tg iter ρ B ds B1) (ok : blkC g.N g.sc scope own = true) (hρ : noOwn (fgt ρ (own.map (·.2))) = ρb)
    (run : LcRun (LcTurn (blkG g scope) tg elt ifs ρb (own.map (·.2))) ds B1 out B2) (hlen : ds.length ≤ 1000000)
    (hf : ∀ (env : Env) x, foldedSetIterable iter env x = pure x := by intro _ _; rfl) : EvR g (.ListComp elt [⟨tg, iter, ifs, 0⟩] scope pos) ρ B (.o (.l out)) B2 := by
  refine ⟨fun X hX => ?_⟩
  obtain ⟨wi, pi, qi⟩ := hi.h X hX
  have okX : BlkOk X.N X.env.scope scope own := by rw [hX.hN, hX.hs]; exact blkOk_by ok
  have ndX : X.N.Nodup := by rw [hX.hN]; exact hX.nd
  exact PE.imp (pe_lc hX.calm ndX pi okX (fun s H C cl fp => rdG_ok (hX.blk scope s H C cl fp)) (fun s H C cl fp => rdT_ok (hX.blk scope s H C cl fp)) (fun s H C cl fp => rdE_ok (hX.blk scope s H C cl fp)) (hf X.env)) fun σ H Q h => lc_read hρ qi run hlen h
/-- name = [..], the name a local -/
theorem ex_setLc {elt : Expr} {ifs : List Expr} {scope : Scope} {own : List (Str × Nat)} {out : List D} {ρb : Rho} {i : Nat} {py : Pos} {E : En} (s : St1 g i n) (hy : g.sc.names.lookup n = some .local) (hi : ItD g tg iter ρ B ds B1) (ok : blkC g.N g.sc scope own = true) (hρ : noOwn (fgt ρ (own.map (·.2))) = ρb)
    (run : LcRun (LcTurn (blkG g scope) tg elt ifs ρb (own.map (·.2))) ds B1 out B2) (hlen : ds.length ≤ 1000000) {spos : Pos} (h : E.nx (ρ.set i (.o (.l out))) B2)
    (hl : (py.line == pos.line) = true := by rfl) (ha : (scope.names.any fun (m, k) => m == n && (k == .local || k == .cell)) = false := by decide +kernel)
    (hf : ∀ (env : Env) x, foldedSetIterable iter env x = pure x := by intro _ _; rfl) : Ex g (.Assign [.Name n py] (.ListComp elt [⟨tg, iter, ifs, 0⟩] scope pos) spos) ρ B E := by
  refine ⟨fun X hX => ?_⟩
  obtain ⟨wi, pi, qi⟩ := hi.h X hX
  have okX : BlkOk X.N X.env.scope scope own := by rw [hX.hN, hX.hs]; exact blkOk_by ok
  have ndX : X.N.Nodup := by rw [hX.hN]; exact hX.nd
  have lx : X.env.scope.names.lookup n = some .local := by rw [hX.hs]; exact hy
  refine ⟨fun pins st σ H D I ⟨c, F, R, q1, _⟩ => ?_⟩
  have hk : X.env.scope.kind = .function := I.ok.kind
  refine (ps_setLc (i := i) hX.calm ndX (by rw [hX.hN]; exact s.ix) lx (sw_true hk lx hl ha) pi okX (fun s H C cl fp => rdG_ok (hX.blk scope s H C cl fp)) (fun s H C cl fp => rdT_ok (hX.blk scope s H C cl fp)) (fun s H C cl fp => rdE_ok (hX.blk scope s H C cl fp)) (hf X.env)).run pins st σ H D I ?_
  exact lc_read hρ qi run hlen ⟨c, F, R, fun v H' F' R' e' ok ap => q1 _ B2 _ H' F' (R'.set ok ap i) e' h⟩
/-- name = [..] as data -/
theorem ex_setLcD {elt : Expr} {ifs : List Expr} {scope : Scope} {own : List (Str × Nat)} {out : List D} {ρb : Rho} {i : Nat} {py : Pos} {E : En} (s : St1 g i n) (hy : g.sc.names.lookup n = some .local) (hi : ItD g tg iter ρ B ds B1) (ok : blkC g.N g.sc scope own = true) (hρ : noOwn (fgt ρ (own.map (·.2))) = ρb)
    (run : LcRun (LcTurn (blkG g scope) tg elt ifs ρb (own.map (·.2))) ds B1 out B2) (hlen : ds.length ≤ 1000000) {spos : Pos} (h : E.nx (ρ.set i (.d (.lst out))) B2)
    (hl : (py.line == pos.line) = true := by rfl) (ha : (scope.names.any fun (m, k) => m == n && (k == .local || k == .cell)) = false := by decide +kernel)
    (hf : ∀ (env : Env) x, foldedSetIterable iter env x = pure x := by intro _ _; rfl) : Ex g (.Assign [.Name n py] (.ListComp elt [⟨tg, iter, ifs, 0⟩] scope pos) spos) ρ B E := by
  refine ⟨fun X hX => ?_⟩
  obtain ⟨wi, pi, qi⟩ := hi.h X hX
  have okX : BlkOk X.N X.env.scope scope own := by rw [hX.hN, hX.hs]; exact blkOk_by ok
  have ndX : X.N.Nodup := by rw [hX.hN]; exact hX.nd
  have lx : X.env.scope.names.lookup n = some .local := by rw [hX.hs]; exact hy
  refine ⟨fun pins st σ H D I ⟨c, F, R, q1, _⟩ => ?_⟩
  have hk : X.env.scope.kind = .function := I.ok.kind
  refine (ps_setLc (i := i) hX.calm ndX (by rw [hX.hN]; exact s.ix) lx (sw_true hk lx hl ha) pi okX (fun s H C cl fp => rdG_ok (hX.blk scope s H C cl fp)) (fun s H C cl fp => rdT_ok (hX.blk scope s H C cl fp)) (fun s H C cl fp => rdE_ok (hX.blk scope s H C cl fp)) (hf X.env)).run pins st σ H D I ?_
  refine lc_read hρ qi run hlen ⟨c, F, R, fun v H' F' R' e' ok ap => ?_⟩
  obtain ⟨p, hv, ⟨ho, h1, h2⟩, n0, nF⟩ := ok
  subst hv
  obtain ⟨R2, e2⟩ := R'.freeze h1 n0 nF fun j ct' hj hs => ap _ rfl j ct' p hj hs rfl
  exact q1 _ B2 _ H' _ (R2.set (r := .d (.lst out)) ((h2.mono e2).rep upd_same) apart_d i) (e'.trans e2) h
end
end PD
namespace PD
open PySem PySem.Spec PyProof.Rows L2 RZ

def startR (N : List Str) (ds : List D) : Rho := ds.map Sl.d ++ List.replicate (N.length - ds.length) .u
def fnG (T : Top) (N : List Str) (st : Stmt) (k : Nat) : G := ⟨T, N, defScope st, k, fun _ => true⟩
/-- what a def's body must come to -/
def retE (r : Res) (B : Bag) : En := { nx := fun _ B1 => r = .d .non ∧ B1 = B, rt := fun r1 B1 => r1 = r ∧ B1 = B }
theorem startR_get {N : List Str} {ds : List D} {i : Nat} {s : Sl} (h : (startR N ds)[i]? = some s) : s = .u ∨ ∃ d, s = .d d ∧ ds[i]? = some d := by
  unfold startR at h
  rw [List.getElem?_append] at h
  split at h
  · rw [List.getElem?_map] at h
    obtain ⟨d, h1, h2⟩ := Option.map_eq_some_iff.mp h
    exact .inr ⟨d, h2.symm, h1⟩
  · rw [List.getElem?_replicate] at h
    split at h
    · exact .inl (Option.some.inj h).symm
    · cases h
theorem fn_ok {T : Top} {k : Nat} {x qual : Str} {st : Stmt} {f : Addr} {fd : FuncData} {N ps : List Str} {R : Con} (F : Fun T.K x qual st f fd) (S : FnScope N ps (defScope st)) (hm : T.mg x = some (.ref f)) (hb : Binds T.K fd ps [])
    (len : ∀ ds B r B', R ds B r B' → ds.length = ps.length)
    (body : ∀ ds B r B', R ds B r B' → Exs (fnG T N st k) (defBody st) (startR N ds) B (retE r B')) : HasFn T (k + 1) x R := by
  refine ⟨f, fd, ps, hm, F.kp, hb, F.ok S (fun vs H Q E h => ?_) fun cdv A outer s H vs Q E hr h => ?_⟩
  · obtain ⟨β, Fz, ds, B, r, B', hR, ha, _⟩ := h
    rw [← ha.length]
    exact len ds B r B' hR
  · obtain ⟨β, Fz, ds, B, r, B', hR, ha, hsub, hbag, q⟩ := h
    have hl := ha.length
    have hx : At (fnG T N st k) (cxOf CX0 T.P T.w T.K T.mg T.base N qual (defScope st) f cdv A outer s H E).nox :=
      ⟨rfl, rfl, rfl, rfl, rfl, rfl, rfl, S.nd, rfl, hr, fun _ _ => rfl, PassesOwn.never⟩
    refine ⟨_, (body ds B r B' hR).h _ hx, ⟨β, H, Fz⟩, Fz, ?_, ?_, ?_, fun _ _ _ _ _ _ _ z => z.elim, fun _ _ _ _ _ _ _ z => z.elim⟩
    · refine ⟨?_, fun b o _ h => h, Same.refl Fz, fun b _ h => h, hsub, fun a h => ⟨(hbag a h).1, (by show H a ≠ none; rw [(hbag a h).1]; exact fun z => nomatch z), (hbag a h).2⟩, fun i d h => ?_, fun i ct h => ?_, fun i j ct ct' p h => ?_⟩
      · unfold startR L2.start
        rw [List.length_append, List.length_append, List.length_map, List.length_map, List.length_replicate, List.length_replicate, hl]
      · rcases startR_get h with z | ⟨d', z, hd⟩
        · cases z
        · cases z
          obtain ⟨v, hv, hrep⟩ := ha.get hd
          refine ⟨v, ?_, hrep⟩
          unfold L2.start
          rw [List.getElem?_append_left (by rw [List.length_map]; exact (List.getElem?_eq_some_iff.mp hv).1), List.getElem?_map, hv]
          rfl
      · rcases startR_get h with z | ⟨d', z, _⟩ <;> cases z
      · rcases startR_get h with z | ⟨d', z, _⟩ <;> cases z
    · intro ρ' B1 σ' H' F' R' e' ⟨hr1, hB⟩
      subst hr1 hB
      exact q .non H' F' (fun b o hb h => R'.fr b o hb h) e' (fun b h1 h2 => R'.dj b h1 h2) R'.sub (fun a h => (R'.bag a h).1) Rep.non
    · intro ρ' B1 σ' H' F' r1 v R' e' ok ⟨hr1, hB⟩
      subst hr1 hB
      exact q v H' F' (fun b o hb h => R'.fr b o hb h) e' (fun b h1 h2 => R'.dj b h1 h2) R'.sub (fun a h => (R'.bag a h).1) ok
end PD
namespace PD
open PySem PySem.Spec PyProof.Rows L2 RZ

/-! ### folk -/
def nD (n : Nat) : D := .int (n : Nat)
theorem nD_int (n : Nat) : nD n = .int (n : Nat) := rfl
theorem map_nD (ns : List Nat) : ns.map nD = (ns.map fun n : Nat => (n : Int)).map D.int := by rw [List.map_map]; rfl
theorem rgD_nD (m : Nat) : rgD 0 m = (List.range m).map nD := by
  unfold rgD nD
  refine List.map_congr_left fun i _ => ?_
  rw [Int.zero_add]

section
variable {g : G} {ρ ρb : Rho} {B B1 B2 B3 : Bag} {a b e tg iter elt : Expr} {pos p tpos : Pos} {x y z d : D} {es elts ifs : List Expr} {ds : List D} {n : Str} {kk : Nat} {scope : Scope} {own : List (Str × Nat)} {α : Type}
theorem c_eqN {i j : Nat} : BinD g (compareOp .Eq) (nD i) (nD j) (.d (.bl (decide (i = j)))) := by
  have := c_eqI (g := g) (i := (i : Nat)) (j := (j : Nat))
  rw [show decide (((i : Nat) : Int) = ((j : Nat) : Int)) = decide (i = j) from decide_eq_decide.mpr Int.ofNat_inj] at this
  exact this
theorem c_neN {i j : Nat} : BinD g (compareOp .NotEq) (nD i) (nD j) (.d (.bl (!decide (i = j)))) := by
  have := c_neI (g := g) (i := (i : Nat)) (j := (j : Nat))
  rw [show decide (((i : Nat) : Int) = ((j : Nat) : Int)) = decide (i = j) from decide_eq_decide.mpr Int.ofNat_inj] at this
  exact this
theorem mem_cast {i : Nat} {ns : List Nat} : decide (((i : Nat) : Int) ∈ ns.map fun n : Nat => (n : Int)) = decide (i ∈ ns) :=
  decide_eq_decide.mpr ⟨fun h => by
    obtain ⟨j, hj, e⟩ := List.mem_map.mp h
    cases Int.ofNat_inj.mp e
    exact hj, fun h => List.mem_map.mpr ⟨i, h, rfl⟩⟩
theorem c_inN {i : Nat} {ns : List Nat} (hy : y.seq = some (ns.map nD)) : BinD g (compareOp .In) (nD i) y (.d (.bl (decide (i ∈ ns)))) := by
  rw [map_nD] at hy
  rw [← mem_cast]
  exact c_inI hy
theorem c_notInN {i : Nat} {ns : List Nat} (hy : y.seq = some (ns.map nD)) : BinD g (compareOp .NotIn) (nD i) y (.d (.bl (!decide (i ∈ ns)))) := by
  rw [map_nD] at hy
  rw [← mem_cast]
  exact c_notInI hy
theorem ev_ixN {i : Nat} (ha : Ev g a ρ B x B1) (hb : Ev g b ρ B1 (nD i) B2) (hx : x.seq = some ds) (hi : ds[i]? = some d) (hs : PlainIxE b := by intro _ _; rfl) : Ev g (.Subscript a b pos) ρ B d B2 := ev_ix ha hb hx (atI_nat hi) hs
theorem it_rangeN {m : Nat} (hg : Glb g "range") (hm : g.T.mg "range" = none) (ha : Ev g a ρ B (nD m) B1) (hl : m ≤ 1000000) (hs : ∀ env : Env, starEach [a] env = [(false, eval a env)] := by intro _; rfl) : ItD g tg (.Call (.Name "range" p) [a] [] pos) ρ B ((List.range m).map nD) B1 := by
  rw [← rgD_nD]
  exact it_range1 hg hm ha hl hs

/-! ### typed comprehensions -/
/-- one target, tests, an element; the bag stays -/
structure LcP (g : G) (tg elt : Expr) (ifs : List Expr) (ρ : Rho) (is : List Nat) (B : Bag) (d : D) (k : Bool) (y : D) : Prop where
  ex : ∃ ρ' js, Tg g tg ρ d ρ' js ∧ (∀ i ∈ js, i ∈ is) ∧ TsL g ifs ρ' B k B ∧ (k = true → Ev g elt ρ' B y B)
theorem lcp {k : Bool} {ρ' : Rho} {is js : List Nat} (h1 : Tg g tg ρ d ρ' js) (h3 : TsL g ifs ρ' B k B) (h4 : k = true → Ev g elt ρ' B y B) (h2 : ∀ i ∈ js, i ∈ is := by decide) : LcP g tg elt ifs ρ is B d k y := ⟨ρ', js, h1, h2, h3, h4⟩
theorem lcp0 {ρ' : Rho} {is js : List Nat} (h1 : Tg g tg ρ d ρ' js) (h4 : Ev g elt ρ' B y B) (h2 : ∀ i ∈ js, i ∈ is := by decide) : LcP g tg elt [] ρ is B d true y := ⟨ρ', js, h1, h2, tsl_nil, fun _ => h4⟩
theorem lcp1 {k : Bool} {t : Expr} {ρ' : Rho} {is js : List Nat} (h1 : Tg g tg ρ d ρ' js) (h3 : Ts g t ρ' B k B) (h4 : k = true → Ev g elt ρ' B y B) (h2 : ∀ i ∈ js, i ∈ is := by decide) : LcP g tg elt [t] ρ is B d k y := ⟨ρ', js, h1, h2, tsl_one h3, h4⟩
theorem run_pure {S : D → Bag → Option D → Bag → Prop} (em : α → D) (p : α → Bool) (f : α → D) : ∀ (xs : List α), (∀ a ∈ xs, S (em a) B (if p a then some (f a) else none) B) → LcRun S (xs.map em) B ((xs.filter p).map f) B
  | [], _ => .nil
  | a :: xs, h => by
    have ih := run_pure em p f xs fun b hb => h b (List.mem_cons_of_mem _ hb)
    have ha := h a List.mem_cons_self
    rw [List.map_cons, List.filter_cons]
    cases hp : p a with
    | true =>
      rw [hp] at ha
      exact .keep ha ih
    | false =>
      rw [hp] at ha
      exact .drop ha ih
theorem evr_lcP (xs : List α) (em : α → D) (p : α → Bool) (f : α → D) (hi : ItD g tg iter ρ B (xs.map em) B1) (ok : blkC g.N g.sc scope own = true) (hρ : noOwn (fgt ρ (own.map (·.2))) = ρb) (hl : xs.length ≤ 1000000)
    (ht : ∀ a ∈ xs, LcP (blkG g scope) tg elt ifs ρb (own.map (·.2)) B1 (em a) (p a) (f a))
    (hf : ∀ (env : Env) x, foldedSetIterable iter env x = pure x := by intro _ _; rfl) : EvR g (.ListComp elt [⟨tg, iter, ifs, 0⟩] scope pos) ρ B (.o (.l ((xs.filter p).map f))) B1 := by
  refine evr_lc hi ok hρ (run_pure em p f xs fun a ha => ?_) (by rw [List.length_map]; exact hl) hf
  obtain ⟨ρ', js, h1, h2, h3, h4⟩ := (ht a ha).ex
  refine ⟨ρ', js, p a, B1, h1, h2, h3, ?_⟩
  cases hp : p a with
  | true => exact ⟨rfl, h4 hp⟩
  | false => exact ⟨rfl, rfl⟩
/-- without tests -/
theorem evr_lc0 (xs : List α) (em : α → D) (f : α → D) (hi : ItD g tg iter ρ B (xs.map em) B1) (ok : blkC g.N g.sc scope own = true) (hρ : noOwn (fgt ρ (own.map (·.2))) = ρb) (hl : xs.length ≤ 1000000)
    (ht : ∀ a ∈ xs, LcP (blkG g scope) tg elt [] ρb (own.map (·.2)) B1 (em a) true (f a))
    (hf : ∀ (env : Env) x, foldedSetIterable iter env x = pure x := by intro _ _; rfl) : EvR g (.ListComp elt [⟨tg, iter, [], 0⟩] scope pos) ρ B (.o (.l (xs.map f))) B1 := by
  have := evr_lcP (pos := pos) xs em (fun _ => true) f hi ok hρ hl ht hf
  rw [List.filter_eq_self.mpr fun _ _ => rfl] at this
  exact this
/-- as data -/
theorem ev_lcP (xs : List α) (em : α → D) (p : α → Bool) (f : α → D) (hi : ItD g tg iter ρ B (xs.map em) B1) (ok : blkC g.N g.sc scope own = true) (hρ : noOwn (fgt ρ (own.map (·.2))) = ρb) (hl : xs.length ≤ 1000000)
    (ht : ∀ a ∈ xs, LcP (blkG g scope) tg elt ifs ρb (own.map (·.2)) B1 (em a) (p a) (f a))
    (hf : ∀ (env : Env) x, foldedSetIterable iter env x = pure x := by intro _ _; rfl) : Ev g (.ListComp elt [⟨tg, iter, ifs, 0⟩] scope pos) ρ B (.lst ((xs.filter p).map f)) B1 := (evr_lcP xs em p f hi ok hρ hl ht hf).fz
theorem ev_lc0 (xs : List α) (em : α → D) (f : α → D) (hi : ItD g tg iter ρ B (xs.map em) B1) (ok : blkC g.N g.sc scope own = true) (hρ : noOwn (fgt ρ (own.map (·.2))) = ρb) (hl : xs.length ≤ 1000000)
    (ht : ∀ a ∈ xs, LcP (blkG g scope) tg elt [] ρb (own.map (·.2)) B1 (em a) true (f a))
    (hf : ∀ (env : Env) x, foldedSetIterable iter env x = pure x := by intro _ _; rfl) : Ev g (.ListComp elt [⟨tg, iter, [], 0⟩] scope pos) ρ B (.lst (xs.map f)) B1 := (evr_lc0 xs em f hi ok hρ hl ht hf).fz
/-- with the bag: f tells the element and the bag behind -/
def mapB (f : α → Bag → D × Bag) : List α → Bag → List D × Bag
  | [], B => ([], B)
  | a :: xs, B => ((f a B).1 :: (mapB f xs (f a B).2).1, (mapB f xs (f a B).2).2)
theorem run_bag {S : D → Bag → Option D → Bag → Prop} (P : Bag → Prop) (em : α → D) (f : α → Bag → D × Bag) : ∀ (xs : List α) (B : Bag), P B → (∀ a ∈ xs, ∀ B, P B → S (em a) B (some (f a B).1) (f a B).2 ∧ P (f a B).2) → LcRun S (xs.map em) B (mapB f xs B).1 (mapB f xs B).2
  | [], B, _, _ => .nil
  | a :: xs, B, hP, h => .keep (h a List.mem_cons_self B hP).1 (run_bag P em f xs _ (h a List.mem_cons_self B hP).2 fun b hb => h b (List.mem_cons_of_mem _ hb))
theorem ev_lcB (P : Bag → Prop) (xs : List α) (em : α → D) (f : α → Bag → D × Bag) (hi : ItD g tg iter ρ B (xs.map em) B1) (ok : blkC g.N g.sc scope own = true) (hρ : noOwn (fgt ρ (own.map (·.2))) = ρb) (hl : xs.length ≤ 1000000) (hP : P B1)
    (ht : ∀ a ∈ xs, ∀ B, P B → (∃ ρ' js, Tg (blkG g scope) tg ρb (em a) ρ' js ∧ (∀ i ∈ js, i ∈ own.map (·.2)) ∧ Ev (blkG g scope) elt ρ' B (f a B).1 (f a B).2) ∧ P (f a B).2)
    (hf : ∀ (env : Env) x, foldedSetIterable iter env x = pure x := by intro _ _; rfl) : Ev g (.ListComp elt [⟨tg, iter, [], 0⟩] scope pos) ρ B (.lst (mapB f xs B1).1) (mapB f xs B1).2 := by
  refine (evr_lc hi ok hρ (run_bag P em f xs B1 hP fun a ha B hB => ?_) (by rw [List.length_map]; exact hl) hf).fz
  obtain ⟨⟨ρ', js, h1, h2, h3⟩, h4⟩ := ht a ha B hB
  exact ⟨⟨ρ', js, true, B, h1, h2, tsl_nil, rfl, h3⟩, h4⟩
/-- name = [..], typed -/
theorem LcP.run {em : α → D} {k : α → Bool} {f : α → D} {xs : List α} {is : List Nat} (ht : ∀ a ∈ xs, LcP g tg elt ifs ρb is B1 (em a) (k a) (f a)) : LcRun (LcTurn g tg elt ifs ρb is) (xs.map em) B1 ((xs.filter k).map f) B1 :=
  run_pure em k f xs fun a ha => by
    obtain ⟨ρ', js, h1, h2, h3, h4⟩ := (ht a ha).ex
    refine ⟨ρ', js, k a, B1, h1, h2, h3, ?_⟩
    cases hp : k a with
    | true => exact ⟨rfl, h4 hp⟩
    | false => exact ⟨rfl, rfl⟩
theorem LcP.run0 {em : α → D} {f : α → D} {xs : List α} {is : List Nat} (ht : ∀ a ∈ xs, LcP g tg elt [] ρb is B1 (em a) true (f a)) : LcRun (LcTurn g tg elt [] ρb is) (xs.map em) B1 (xs.map f) B1 := by
  have := LcP.run (k := fun _ => true) (f := f) ht
  rw [List.filter_eq_self.mpr fun _ _ => rfl] at this
  exact this
end
end PD
namespace PD
open PySem PySem.Spec PyProof.Rows L2 RZ

/-! ### own things changed -/
section
variable {K : PySem.W.Frag} {c : C0} {ρ : Rho} {B B' : Bag} {σ : L2.St} {H F : Hp}
theorem Rel.wrOwn (R : Rel K c ρ B σ H F) {i : Nat} {ct ct' : Ct} {p : Addr} {ho : HO} (hi : ρ[i]? = some (.o ct)) (hp : σ[i]? = some (some (.ref p))) (h : CtOk K c.β F ct' ho) : Rel K c (ρ.set i (.o ct')) B σ (upd H p ho) F := by
  obtain ⟨p', h1, ⟨ho0, h2, h3⟩, h4, h5⟩ := R.own i ct hi
  rw [hp] at h1
  cases h1
  have hil : i < ρ.length := (List.getElem?_eq_some_iff.mp hi).1
  have pick : ∀ (j : Nat) (s : Sl), (ρ.set i (.o ct'))[j]? = some s → (j = i ∧ s = .o ct') ∨ (j ≠ i ∧ ρ[j]? = some s) := fun j s h => by
    by_cases hj : i = j
    · subst hj
      rw [List.getElem?_set_self hil] at h
      exact .inl ⟨rfl, (Option.some.inj h).symm⟩
    · rw [List.getElem?_set_ne hj] at h
      exact .inr ⟨fun z => hj z.symm, h⟩
  have hb : some p ≠ c.β := R.H_none h4
  refine ⟨by rw [List.length_set]; exact R.len, fun b o hb h => by rw [upd_ne (ne_of_none h h4)]; exact R.fr b o hb h, R.gr, R.dj, fun b u h => by rw [upd_ne (ne_of_none h h5)]; exact R.sub b u h,
    fun a ha => ⟨by rw [upd_ne (fun z => hb (by rw [← z]; exact ha.symm))]; exact (R.bag a ha).1, (R.bag a ha).2⟩, fun j x h => ?_, fun j ct2 hj => ?_, fun j j' ct1 ct2 q h1 h2 h3 h4 => ?_⟩
  · rcases pick j _ h with ⟨_, z⟩ | ⟨_, h'⟩
    · cases z
    · exact R.dat j x h'
  · rcases pick j _ hj with ⟨rfl, z⟩ | ⟨hne, h'⟩
    · cases z
      exact ⟨p, hp, ⟨ho, upd_same, h⟩, h4, h5⟩
    · obtain ⟨q, g1, ⟨ho2, g2, g3⟩, g4, g5⟩ := R.own j ct2 h'
      have hq : q ≠ p := fun z => hne (R.sep j i ct2 ct p h' hi (by rw [g1, z]) hp)
      exact ⟨q, g1, ⟨ho2, by rw [upd_ne hq]; exact g2, g3⟩, g4, g5⟩
  · rcases pick j _ h1 with ⟨rfl, _⟩ | ⟨hne, h1'⟩
    · rcases pick j' _ h2 with ⟨rfl, _⟩ | ⟨hne', h2'⟩
      · rfl
      · exact R.sep _ j' ct ct2 q hi h2' h3 h4
    · rcases pick j' _ h2 with ⟨rfl, _⟩ | ⟨hne', h2'⟩
      · exact R.sep j _ ct1 ct q h1' hi h3 h4
      · exact R.sep j j' ct1 ct2 q h1' h2' h3 h4
/-- an own thing of a slot becomes data -/
theorem Rel.fzSlot (R : Rel K c ρ B σ H F) {i : Nat} {ct : Ct} (hi : ρ[i]? = some (.o ct)) : ∃ F', Rel K c (ρ.set i (.d ct.d)) B σ H F' ∧ Same F F' := by
  obtain ⟨p, hp, ⟨ho, h2, h3⟩, h4, h5⟩ := R.own i ct hi
  have hil : i < ρ.length := (List.getElem?_eq_some_iff.mp hi).1
  have pick : ∀ (j : Nat) (s : Sl), (ρ.set i .u)[j]? = some s → s = .u ∨ (j ≠ i ∧ ρ[j]? = some s) := fun j s h => by
    by_cases hj : i = j
    · subst hj
      rw [List.getElem?_set_self hil] at h
      exact .inl (Option.some.inj h).symm
    · rw [List.getElem?_set_ne hj] at h
      exact .inr ⟨fun z => hj z.symm, h⟩
  have R0 : Rel K c (ρ.set i .u) B σ H F := by
    refine ⟨by rw [List.length_set]; exact R.len, R.fr, R.gr, R.dj, R.sub, R.bag, fun j x h => ?_, fun j ct2 h => ?_, fun j j' ct1 ct2 q h1 h2 h3 h4 => ?_⟩
    · rcases pick j _ h with z | ⟨_, h'⟩
      · cases z
      · exact R.dat j x h'
    · rcases pick j _ h with z | ⟨_, h'⟩
      · cases z
      · exact R.own j ct2 h'
    · rcases pick j _ h1 with z | ⟨_, h1'⟩
      · cases z
      · rcases pick j' _ h2 with z | ⟨_, h2'⟩
        · cases z
        · exact R.sep j j' ct1 ct2 q h1' h2' h3 h4
  obtain ⟨R1, e1⟩ := R0.freeze h2 h4 h5 fun j ct2 hj hs => by
    rcases pick j _ hj with z | ⟨hne, h'⟩
    · cases z
    · exact hne (R.sep j i ct2 ct p h' hi hs hp)
  have R2 := R1.set (r := .d ct.d) (v := .ref p) ((h3.mono e1).rep upd_same) apart_d i
  rw [List.set_set] at R2
  have hσ : σ.set i (some (.ref p)) = σ := by
    apply List.ext_getElem?
    intro j
    by_cases hj : i = j
    · subst hj
      rw [List.getElem?_set_self (by rw [← R.len]; exact hil), hp]
    · rw [List.getElem?_set_ne hj]
  rw [hσ] at R2
  exact ⟨_, R2, e1⟩
end

section
variable {g : G} {ρ ρb : Rho} {B B1 B2 B3 : Bag} {a b e tg iter elt : Expr} {pos p apos cpos epos : Pos} {x y z d : D} {es elts ifs : List Expr} {sts : List Stmt} {ds : List D} {n n2 : Str} {E : En}
theorem exs_fz {i : Nat} {ct : Ct} (hi : ρ[i]? = some (.o ct)) (h : Exs g sts (ρ.set i (.d ct.d)) B E) : Exs g sts ρ B E :=
  ⟨fun X hX => PSs.imp (h.h X hX) fun D σ H ⟨c, F, R, q1, q2, q3, q4⟩ =>
    let ⟨F', R', e'⟩ := R.fzSlot hi
    ⟨c, F', R', q1.mono e' fun _ _ z => z, q2.mono e' fun _ _ z => z, q3.mono e' fun _ _ z => z, q4.mono e' fun _ _ z => z⟩⟩
/-- forget a slot -/
theorem Rel.u {K : PySem.W.Frag} {c : C0} {σ : L2.St} {H F : Hp} (R : Rel K c ρ B σ H F) (i : Nat) : Rel K c (ρ.set i .u) B σ H F := by
  have pick : ∀ (j : Nat) (s : Sl), (ρ.set i .u)[j]? = some s → s = .u ∨ ρ[j]? = some s := fun j s h => by
    by_cases hj : i = j
    · subst hj
      by_cases hi : i < ρ.length
      · rw [List.getElem?_set_self hi] at h
        exact .inl (Option.some.inj h).symm
      · rw [List.getElem?_eq_none (by rw [List.length_set]; omega)] at h
        cases h
    · rw [List.getElem?_set_ne hj] at h
      exact .inr h
  refine ⟨by rw [List.length_set]; exact R.len, R.fr, R.gr, R.dj, R.sub, R.bag, fun j x h => ?_, fun j ct2 h => ?_, fun j j' ct1 ct2 q h1 h2 h3 h4 => ?_⟩
  · rcases pick j _ h with z | h'
    · cases z
    · exact R.dat j x h'
  · rcases pick j _ h with z | h'
    · cases z
    · exact R.own j ct2 h'
  · rcases pick j _ h1 with z | h1'
    · cases z
    · rcases pick j' _ h2 with z | h2'
      · cases z
      · exact R.sep j j' ct1 ct2 q h1' h2' h3 h4
theorem exs_u {i : Nat} (h : Exs g sts (ρ.set i .u) B E) : Exs g sts ρ B E :=
  ⟨fun X hX => PSs.imp (h.h X hX) fun D σ H ⟨c, F, R, q⟩ => ⟨c, F, R.u i, q⟩⟩
/-- x.append(e), x an own list -/
theorem ex_append {i : Nat} (hN : g.N[i]? = some n) (hv : Vis g.sc n) (hi : ρ[i]? = some (.o (.l ds))) (he : Ev g e ρ B y B1) (h : E.nx (ρ.set i (.o (.l (ds ++ [y])))) B1) (hl : ds.length ≤ 1000000)
    (hd : (n == ("__debug__" : Str)) = false := by decide) (hcd : (n == ("__classdict__" : Str)) = false := by decide)
    (hbase : ∀ env : Env, attributeBase (.Name n p) "append" env (eval (.Name n p) env) = eval (.Name n p) env := by intro _; rfl)
    (hfew : ∀ env : Env, ((backTo cpos (starEach (e :: []) env)).all (fun x => !x.1) && (backToKw cpos (keywordEach [] env)).all (fun x => x.1.isSome)
      && decide ((e :: []).length + ([] : List Keyword).length + (if ([] : List Keyword).isEmpty then 0 else 1) < 30)) = true := by intro _; rfl)
    (hline : (apos.endLine == cpos.line) = true := by rfl) (hs : ∀ env : Env, starEach (e :: []) env = (false, eval e env) :: starEach [] env := by intro _; rfl) (hplain : ∀ env : Env, (backTo cpos (starEach [] env)).any (·.1) = false := by intro _; rfl)
    (hs1 : ∀ env : Env, swapsWith (.Call (.Attribute (.Name n p) "append" apos) [e] [] cpos) none epos.line env = pure false := by intro _; rfl) : Ex g (.Expr (.Call (.Attribute (.Name n p) "append" apos) [e] [] cpos) epos) ρ B E := by
  refine ⟨fun X hX => ?_⟩
  have pv : PE X (.Name n p) (tVar i) := pe_var (by rw [hX.hN]; exact hN) (by rw [hX.hs]; exact hv) hd hcd
  have pa : PA X [e] (tCons (tEv g.T.K ρ B (.d y) B1) tNil) := pa_cons (he.h X hX) pa_nil (hs X.env)
  refine PS.imp (ps_expr (pe_bm PySem.F.plainAttrs_list PySem.F.slot_list_append PySem.F.type_list_append mt_append pv pa (hbase X.env) (hfew X.env) hline (hs X.env) (hplain X.env)) (hs1 X.env)) fun D σ H ⟨c, F, R, q1, _⟩ => ?_
  obtain ⟨q, h1, ⟨ho, h2, vs, rfl, hz, hr⟩, h4, h5⟩ := R.own i _ hi
  have hz' : (sizeLine : Nat) = 16777216 := sizeLine_eq
  refine ⟨.ref q, h1, .inl ⟨rfl, _, .inl (.inl h2)⟩, c, F, R, fun v H1 F1 R1 e1 hv _ => ?_⟩
  obtain ⟨q', g1, ⟨ho', g2, vs', rfl, gz, gr⟩, g4, g5⟩ := R1.own i _ hi
  rw [h1] at g1
  cases g1
  have hlen := gr.length
  refine ⟨q, vs', v, rfl, rfl, g2, by omega, ?_⟩
  exact q1 _ B1 σ _ F1 (R1.wrOwn (ct' := .l (ds ++ [y])) hi h1 ⟨_, rfl, by rw [List.length_append]; simp; omega, gr.append (.cons hv .nil)⟩) e1 h
/-- x.append(y.pop(e)), x and y own lists -/
theorem ex_appendPop {i j k : Nat} {xs : List D} {p2 apos2 cpos2 : Pos} (hN : g.N[i]? = some n) (hv : Vis g.sc n) (hi : ρ[i]? = some (.o (.l ds))) (hN2 : g.N[j]? = some n2) (hv2 : Vis g.sc n2) (hj : ρ[j]? = some (.o (.l xs))) (hij : i ≠ j)
    (he : Ev g e ρ B (nD k) B1) (hk : xs[k]? = some y) (hkl : k < 1000000) (h : E.nx ((ρ.set j (.o (.l (xs.eraseIdx k)))).set i (.o (.l (ds ++ [y])))) B1) (hl : ds.length ≤ 1000000)
    (hd : (n == ("__debug__" : Str)) = false := by decide) (hcd : (n == ("__classdict__" : Str)) = false := by decide) (hd2 : (n2 == ("__debug__" : Str)) = false := by decide) (hcd2 : (n2 == ("__classdict__" : Str)) = false := by decide)
    (hbase : ∀ env : Env, attributeBase (.Name n p) "append" env (eval (.Name n p) env) = eval (.Name n p) env := by intro _; rfl)
    (hbase2 : ∀ env : Env, attributeBase (.Name n2 p2) "pop" env (eval (.Name n2 p2) env) = eval (.Name n2 p2) env := by intro _; rfl)
    (hfew : ∀ env : Env, ((backTo cpos (starEach (.Call (.Attribute (.Name n2 p2) "pop" apos2) [e] [] cpos2 :: []) env)).all (fun x => !x.1) && (backToKw cpos (keywordEach [] env)).all (fun x => x.1.isSome)
      && decide ((Expr.Call (.Attribute (.Name n2 p2) "pop" apos2) [e] [] cpos2 :: []).length + ([] : List Keyword).length + (if ([] : List Keyword).isEmpty then 0 else 1) < 30)) = true := by intro _; rfl)
    (hfew2 : ∀ env : Env, ((backTo cpos2 (starEach (e :: []) env)).all (fun x => !x.1) && (backToKw cpos2 (keywordEach [] env)).all (fun x => x.1.isSome)
      && decide ((e :: []).length + ([] : List Keyword).length + (if ([] : List Keyword).isEmpty then 0 else 1) < 30)) = true := by intro _; rfl)
    (hline : (apos.endLine == cpos.line) = true := by rfl) (hline2 : (apos2.endLine == cpos2.line) = true := by rfl) (hs : ∀ env : Env, starEach (e :: []) env = (false, eval e env) :: starEach [] env := by intro _; rfl) (hplain : ∀ (cpos : Pos) (env : Env), (backTo cpos (starEach [] env)).any (·.1) = false := by intro _ _; rfl)
    (hs0 : ∀ env : Env, starEach (.Call (.Attribute (.Name n2 p2) "pop" apos2) [e] [] cpos2 :: []) env = (false, eval (.Call (.Attribute (.Name n2 p2) "pop" apos2) [e] [] cpos2) env) :: starEach [] env := by intro _; rfl)
    (hs1 : ∀ env : Env, swapsWith (.Call (.Attribute (.Name n p) "append" apos) [.Call (.Attribute (.Name n2 p2) "pop" apos2) [e] [] cpos2] [] cpos) none epos.line env = pure false := by intro _; rfl) :
    Ex g (.Expr (.Call (.Attribute (.Name n p) "append" apos) [.Call (.Attribute (.Name n2 p2) "pop" apos2) [e] [] cpos2] [] cpos) epos) ρ B E := by
  refine ⟨fun X hX => ?_⟩
  have pv : PE X (.Name n p) (tVar i) := pe_var (by rw [hX.hN]; exact hN) (by rw [hX.hs]; exact hv) hd hcd
  have pv2 : PE X (.Name n2 p2) (tVar j) := pe_var (by rw [hX.hN]; exact hN2) (by rw [hX.hs]; exact hv2) hd2 hcd2
  have pa : PA X [e] (tCons (tEv g.T.K ρ B (.d (nD k)) B1) tNil) := pa_cons (he.h X hX) pa_nil (hs X.env)
  have pp := pe_bm (cpos := cpos2) PySem.F.plainAttrs_list PySem.F.slot_list_pop PySem.F.type_list_pop mt_popAt pv2 pa (hbase2 X.env) (hfew2 X.env) hline2 (hs X.env) (hplain _ X.env)
  refine PS.imp (ps_expr (pe_bm PySem.F.plainAttrs_list PySem.F.slot_list_append PySem.F.type_list_append mt_append pv (pa_cons pp pa_nil (hs0 X.env)) (hbase X.env) (hfew X.env) hline (hs0 X.env) (hplain _ X.env)) (hs1 X.env)) fun D σ H ⟨c, F, R, q1, _⟩ => ?_
  have hz' : (sizeLine : Nat) = 16777216 := sizeLine_eq
  obtain ⟨q, h1, ⟨ho, h2, vs, rfl, hz, hr⟩, h4, h5⟩ := R.own i _ hi
  obtain ⟨r, k1, ⟨ho, k2, ws, rfl, kz, kr⟩, k4, k5⟩ := R.own j _ hj
  refine ⟨.ref q, h1, .inl ⟨rfl, _, .inl (.inl h2)⟩, .ref r, k1, .inl ⟨rfl, _, .inl (.inl k2)⟩, c, F, R, fun v H1 F1 R1 e1 hv _ => ?_⟩
  cases hv
  obtain ⟨r', g1, ⟨ho', g2, ws', rfl, gz, gr⟩, g4, g5⟩ := R1.own j _ hj
  rw [k1] at g1
  cases g1
  obtain ⟨w, hw, rw'⟩ := gr.get hk
  have hkl2 : k < ws'.length := (List.getElem?_eq_some_iff.mp hw).1
  refine ⟨r, ws', (k : Nat), k, w, rfl, rfl, g2, by omega, by omega, ?_, hw, ?_⟩
  · rw [seqIndex_of (by omega) (by omega)]
    simp
  have R2 := R1.wrOwn hj k1 (ct' := .l (xs.eraseIdx k)) ⟨_, rfl, Nat.le_trans (len_erase _ _) gz, gr.eraseIdx k⟩
  have hi2 : (ρ.set j (.o (.l (xs.eraseIdx k))))[i]? = some (.o (.l ds)) := by rw [List.getElem?_set_ne (Ne.symm hij)]; exact hi
  obtain ⟨q', m1, ⟨ho', m2, vs', rfl, mz, mr⟩, m4, m5⟩ := R2.own i _ hi2
  rw [h1] at m1
  cases m1
  have hlen := mr.length
  refine ⟨q, vs', w, rfl, rfl, m2, by omega, ?_⟩
  exact q1 _ B1 σ _ F1 (R2.wrOwn (ct' := .l (ds ++ [y])) hi2 h1 ⟨_, rfl, by rw [List.length_append]; simp; omega, mr.append (.cons rw' .nil)⟩) e1 h
/-- len(x), x an own list -/
theorem ev_lenOwn {i : Nat} {pn : Pos} (hN : g.N[i]? = some n) (hv : Vis g.sc n) (hi : ρ[i]? = some (.o (.l ds))) (hg : Glb g "len") (hm : g.T.mg "len" = none) (hd : (n == ("__debug__" : Str)) = false := by decide) (hcd : (n == ("__classdict__" : Str)) = false := by decide)
    (hs : ∀ env : Env, starEach (.Name n p :: []) env = (false, eval (.Name n p) env) :: starEach [] env := by intro _; rfl) (hplain : ∀ env : Env, (backTo pos (starEach [] env)).any (·.1) = false := by intro _; rfl) :
    Ev g (.Call (.Name "len" pn) [.Name n p] [] pos) ρ B (nD ds.length) B := by
  refine ⟨fun X hX => ?_⟩
  have pv : PE X (.Name n p) (tVar i) := pe_var (by rw [hX.hN]; exact hN) (by rw [hX.hs]; exact hv) hd hcd
  refine PE.imp (pe_callB call_len_seq (hg.at hX) (by rw [hX.hm]; exact hm) PySem.boot_len (pa_cons pv pa_nil (hs X.env)) (by decide) (by decide) (hs X.env) (hplain X.env)) fun σ H Q ⟨c, F, R, q⟩ => ?_
  obtain ⟨r, k1, ⟨ho, k2, ws, rfl, kz, kr⟩, k4, k5⟩ := R.own i _ hi
  refine ⟨.ref r, k1, r, ws, rfl, .inl (.inl (.inl k2)), ?_⟩
  have := q (.int (ds.length : Nat)) H F R (Same.refl F) (.int _) apart_d
  rw [kr.length] at this
  exact this
/-- list(range(n)) -/
theorem evr_listRange {m : Nat} {pl pr prc : Pos} (hg : Glb g "list") (hm : g.T.mg "list" = none) (hg2 : Glb g "range") (hm2 : g.T.mg "range" = none) (ha : Ev g a ρ B (nD m) B1) (hml : m ≤ 1000000)
    (na : ∀ env : Env, starEach [a] env = (false, eval a env) :: starEach [] env := by intro _; rfl) (nb : ∀ env : Env, starEach [.Call (.Name "range" pr) [a] [] prc] env = (false, eval (.Call (.Name "range" pr) [a] [] prc) env) :: starEach [] env := by intro _; rfl) :
    EvR g (.Call (.Name "list" pl) [.Call (.Name "range" pr) [a] [] prc] [] pos) ρ B (.o (.l ((List.range m).map nD))) B1 := by
  refine ⟨fun X hX => PE.imp (pe_listRg hX.calm (hg.at hX) (by rw [hX.hm]; exact hm) (prg_1 (hg2.at hX) (by rw [hX.hm]; exact hm2) (ha.h X hX) (na X.env)) (nb X.env)) fun σ H Q ⟨c, F, R, q⟩ => ⟨c, F, R, fun v H1 F1 R1 e1 hv _ => ?_⟩⟩
  cases hv
  refine ⟨_, rfl, .of_le (by omega) (by omega) (by omega) (by omega), fun l nl => ?_⟩
  have hrep : RepAll g.T.K c.β F1 ((List.range m).map nD) (rgV 0 ((m : Nat) : Int)) := by
    have e : rgV 0 ((m : Nat) : Int) = (List.range m).map fun i => V.int (i : Nat) := by
      unfold rgV
      rw [show (((m : Nat) : Int) - 0).toNat = m by omega]
      exact List.map_congr_left fun i _ => by rw [Int.zero_add]
    rw [e]
    generalize List.range m = l
    induction l with
    | nil => exact .nil
    | cons i l ih => exact .cons (.int _) ih
  have hlen : (rgV 0 ((m : Nat) : Int)).length ≤ sizeLine := by
    rw [rgV_length, sizeLine_eq]
    omega
  exact q _ _ F1 (R1.newO nl) e1 ⟨l, rfl, OwnAt.new' R1 nl ⟨_, rfl, hlen, hrep⟩⟩ (R1.apart nl)

/-! ### the bag -/
def Bag.set (B : Bag) : Nat → Int → Bag
  | 0, v => (v, B.2.1, B.2.2)
  | 1, v => (B.1, v, B.2.2)
  | _, v => (B.1, B.2.1, v)
theorem ex_setBag {o i : Expr} {k : Nat} {v : Int} {ps : Pos} (he : Ev g e ρ B (.int v) B1) (ho : Ev g o ρ B1 .bag B2) (hi : Ev g i ρ B2 (.int (k : Nat)) B3) (hk : k < 3) (h : E.nx ρ (Bag.set B3 k v))
    (ha : ∀ (env : Env) (v : Value), assign (.Subscript o i ps) env v = (do
      let ov ← holding [v] (eval o env)
      let iv ← holding [v, ov] (eval i env)
      standAt ps
      holding [v, ov, iv] (setItem ov iv v)
      release [v, ov, iv] []) := by intro _ _; rfl)
    (hs : ∀ env : Env, swapsWithSole [.Subscript o i ps] e pos.line env = pure false := by intro _; rfl) (hw : ∀ env : Env, swappedStores [.Subscript o i ps] e env = pure none := by intro _; rfl)
    (h1 : ∀ env : Env, (assignEach [.Subscript o i ps] env).map (·.2) = [assign (.Subscript o i ps) env] := by intro _; rfl) : Ex g (.Assign [.Subscript o i ps] e pos) ρ B E := by
  refine ⟨fun X hX => PS.imp (ps_asg (he.h X hX) (pg_sub (ho.h X hX) (hi.h X hX) set_list (ha X.env)) (hs X.env) (hw X.env) (h1 X.env)) fun D σ H ⟨c, F, R, q1, _⟩ => ⟨c, F, R, fun v1 H1 F1 R1 e1 hv _ => ⟨c, F1, R1, fun v2 H2 F2 R2 e2 hv2 _ => ⟨c, F2, R2, fun v3 H3 F3 R3 e3 hv3 _ => ?_⟩⟩⟩⟩
  cases hv
  cases hv3
  cases hv2 with
  | bag hβ =>
    obtain ⟨hb1, hb2, hb3⟩ := R3.bag _ hβ
    refine ⟨_, [.int B3.1, .int B3.2.1, .int B3.2.2], (k : Nat), k, rfl, rfl, hb1, ?_, ?_⟩
    · unfold ixN
      rw [if_pos (by omega), if_pos (show ((k : Nat) : Int) < ([V.int B3.1, V.int B3.2.1, V.int B3.2.2] : List V).length by show ((k : Nat) : Int) < ((3 : Nat) : Int); omega)]
      rw [Int.toNat_natCast]
    · have hset : (.lst ([V.int B3.1, V.int B3.2.1, V.int B3.2.2].set k (.int v)) : HO) = bagH (Bag.set B3 k v) := by
        match k, hk with
        | 0, _ => rfl
        | 1, _ => rfl
        | 2, _ => rfl
      rw [hset]
      have nF := R3.F_bag hβ
      refine q1 ρ _ σ _ F3 ⟨R3.len, fun b u hb h => ?_, R3.gr, R3.dj, fun b u h => ?_, fun a' ha' => ?_, R3.dat, fun j ct hj => ?_, R3.sep⟩ ((e1.trans e2).trans e3) h
      · rw [upd_ne (fun z => hb (by rw [z]; exact hβ.symm))]
        exact R3.fr b u hb h
      · rw [upd_ne (ne_of_none h nF)]
        exact R3.sub b u h
      · rw [hβ] at ha'
        cases ha'
        exact ⟨upd_same, hb2, hb3⟩
      · obtain ⟨q, g1, ⟨ho2, g2, g3⟩, g4, g5⟩ := R3.own j ct hj
        have hq : some q ≠ c.β := R3.H_none g4
        exact ⟨q, g1, ⟨ho2, by rw [upd_ne (fun z => hq (by rw [z]; exact hβ.symm))]; exact g2, g3⟩, g4, g5⟩
end
end PD
namespace PD
open PySem PySem.Spec PyProof.Rows L2 RZ

/-! ### max, min with a default -/
theorem reads_ints {h : Heap} {ns : List Int} {us : List Value} (hi : IntsAre us ns) : ∃ as, ReadsAll h us (ns.map PyData.int) as := by
  induction hi with
  | nil => exact ⟨_, ReadsAll.nil⟩
  | cons i t _ ih =>
    obtain ⟨as, h⟩ := ih
    exact ⟨_, ReadsAll.cons (Reads.int _ _) h⟩
theorem alikeAll_ints (ns : List Int) : PySem.W.AlikeAll (ns.map PyData.int) :=
  ⟨fun x hx y hy => by
    obtain ⟨i, _, rfl⟩ := List.mem_map.mp hx
    obtain ⟨j, _, rfl⟩ := List.mem_map.mp hy
    rfl, fun x hx => by
    obtain ⟨i, _, rfl⟩ := List.mem_map.mp hx
    exact fun z => nomatch z⟩
theorem int_of_reads {h : Heap} {v : Value} {i : Int} {as : List Addr} (r : Reads h v (.int i) as) : ∃ t, v = .int i t := by
  cases r
  exact ⟨_, rfl⟩
theorem foldl_max (n : Int) : ∀ ns : List Int, ns.foldl max n = maxL (n :: ns) := fun ns => by unfold maxL; rw [List.max?_cons']; rfl
theorem foldl_min (n : Int) : ∀ ns : List Int, ns.foldl min n = minL (n :: ns) := fun ns => by unfold minL; rw [List.min?_cons']; rfl
def maxO (ns : List Int) (d : Int) : Int := if ns = [] then d else maxL ns
def minO (ns : List Int) (d : Int) : Int := if ns = [] then d else minL ns
section
variable {X : Cx}
theorem cr_maxDef (hc : X.calm = true) (hu : X.A.units + 64 < cLine) : CallRK X (.builtin "max") [Str.ofString "default"] (fun vs zs H Q => ∃ (a : Addr) (ns : List Int) (d : Int), vs = [.ref a] ∧ zs = [.int d] ∧ SqL X.K H a (ns.map V.int) ∧ Q (.int (maxO ns d)) H) := by
  intro pins s σ H vs zs us ws Q I r rz h
  obtain ⟨a, ns, d, rfl, rfl, hs, q⟩ := h
  obtain rfl := Vals.ref1 r
  obtain ⟨w1, rfl, t, rfl⟩ := vals1 rz
  obtain ⟨its, rv, hl, hz⟩ := I.list hs
  obtain ⟨as, hr⟩ := reads_ints (h := s.heap) rv.ints
  show wpAny _ _ (call (.builtin "max") [.ref a] [(Str.ofString "default", Value.int d t)]) _ _ s
  refine PySem.W.max_list_default (I.ok.hd hc) hl.isList hr (alikeAll_ints ns) (by rw [PySem.W.depth_ints]; omega) (fun e h' tk hk => ?_) fun y ys i v h' tk bs e hv rd hk => ?_
  · have e0 : ns = [] := List.map_eq_nil_iff.mp e
    subst e0
    exact ⟨.int d, H, I.kept hk, ⟨t, rfl⟩, q⟩
  · cases ns with
    | nil => cases e
    | cons n ns =>
      rw [List.map_cons] at e
      injection e with e1 e2
      subst e1 e2
      rw [PySem.W.maxD_ints] at rd
      obtain ⟨t', rfl⟩ := int_of_reads rd
      rw [foldl_max]
      exact ⟨.int _, H, I.kept hk, ⟨t', rfl⟩, q⟩
theorem cr_minDef (hc : X.calm = true) (hu : X.A.units + 64 < cLine) : CallRK X (.builtin "min") [Str.ofString "default"] (fun vs zs H Q => ∃ (a : Addr) (ns : List Int) (d : Int), vs = [.ref a] ∧ zs = [.int d] ∧ SqL X.K H a (ns.map V.int) ∧ Q (.int (minO ns d)) H) := by
  intro pins s σ H vs zs us ws Q I r rz h
  obtain ⟨a, ns, d, rfl, rfl, hs, q⟩ := h
  obtain rfl := Vals.ref1 r
  obtain ⟨w1, rfl, t, rfl⟩ := vals1 rz
  obtain ⟨its, rv, hl, hz⟩ := I.list hs
  obtain ⟨as, hr⟩ := reads_ints (h := s.heap) rv.ints
  show wpAny _ _ (call (.builtin "min") [.ref a] [(Str.ofString "default", Value.int d t)]) _ _ s
  refine PySem.W.min_list_default (I.ok.hd hc) hl.isList hr (alikeAll_ints ns) (by rw [PySem.W.depth_ints]; omega) (fun e h' tk hk => ?_) fun y ys i v h' tk bs e hv rd hk => ?_
  · have e0 : ns = [] := List.map_eq_nil_iff.mp e
    subst e0
    exact ⟨.int d, H, I.kept hk, ⟨t, rfl⟩, q⟩
  · cases ns with
    | nil => cases e
    | cons n ns =>
      rw [List.map_cons] at e
      injection e with e1 e2
      subst e1 e2
      rw [PySem.W.minD_ints] at rd
      obtain ⟨t', rfl⟩ := int_of_reads rd
      rw [foldl_min]
      exact ⟨.int _, H, I.kept hk, ⟨t', rfl⟩, q⟩
end
section
variable {g : G} {ρ ρb : Rho} {B B1 B2 B3 : Bag} {a b e tg iter elt : Expr} {pos p kpos : Pos} {x y z d : D} {es elts ifs : List Expr} {ds : List D} {n : Str}
theorem ev_maxDef {ns : List Int} {dv : Int} (hg : Glb g "max") (hm : g.T.mg "max" = none) (ha : Ev g a ρ B (.lst (ns.map .int)) B1) (hb : Ev g b ρ B1 (.int dv) B2)
    (hs : ∀ env : Env, starEach [a] env = (false, eval a env) :: starEach [] env := by intro _; rfl)
    (he : ∀ env : Env, backTo pos (starEach [a] env) = (false, eval a env) :: backTo pos (starEach [] env) := by intro _; rfl) (hpl : ∀ env : Env, (backTo pos (starEach [a] env)).any (·.1) = false := by intro _; rfl)
    (hall : ∀ env : Env, (backToKw pos (keywordEach [⟨some "default", b, kpos⟩] env)).all (·.1.isSome) = true := by intro _; rfl) (hnone : ∀ env : Env, (backToKw pos (keywordEach [⟨some "default", b, kpos⟩] env)).any (·.1.isNone) = false := by intro _; rfl)
    (hks : ∀ env : Env, (backToKw pos (keywordEach [⟨some "default", b, kpos⟩] env)).filterMap (·.1) = [Str.ofString "default"] := by intro _; rfl) :
    Ev g (.Call (.Name "max" p) [a] [⟨some "default", b, kpos⟩] pos) ρ B (.int (maxO ns dv)) B2 := by
  refine ⟨fun X hX => PE.imp (pe_callBK (cr_maxDef hX.calm hX.room.units) (hg.at hX) (by rw [hX.hm]; exact hm) (by decide +kernel) (pa_cons (ha.h X hX) pa_nil (hs X.env)) (pk_cons (hb.h X hX) pk_nil) (by decide) (by decide) (he X.env) (hpl X.env) (hall X.env) (hnone X.env) (hks X.env)) fun σ H Q ⟨c, F, R, q⟩ =>
    ⟨c, F, R, fun v H1 F1 R1 e1 hv _ => ⟨c, F1, R1, fun w H2 F2 R2 e2 hw _ => ?_⟩⟩⟩
  cases hw
  have hv2 : Rep g.T.K c.β F2 (.lst (ns.map .int)) v := Rep.mono e2 hv
  clear hv
  cases hv2 with
  | lst h1 h2 h3 =>
    cases h3.ints
    exact ⟨_, ns, dv, rfl, rfl, SqL.sub R2.sub h1, q _ H2 F2 R2 (e1.trans e2) (.int _) apart_d⟩
theorem ev_minDef {ns : List Int} {dv : Int} (hg : Glb g "min") (hm : g.T.mg "min" = none) (ha : Ev g a ρ B (.lst (ns.map .int)) B1) (hb : Ev g b ρ B1 (.int dv) B2)
    (hs : ∀ env : Env, starEach [a] env = (false, eval a env) :: starEach [] env := by intro _; rfl)
    (he : ∀ env : Env, backTo pos (starEach [a] env) = (false, eval a env) :: backTo pos (starEach [] env) := by intro _; rfl) (hpl : ∀ env : Env, (backTo pos (starEach [a] env)).any (·.1) = false := by intro _; rfl)
    (hall : ∀ env : Env, (backToKw pos (keywordEach [⟨some "default", b, kpos⟩] env)).all (·.1.isSome) = true := by intro _; rfl) (hnone : ∀ env : Env, (backToKw pos (keywordEach [⟨some "default", b, kpos⟩] env)).any (·.1.isNone) = false := by intro _; rfl)
    (hks : ∀ env : Env, (backToKw pos (keywordEach [⟨some "default", b, kpos⟩] env)).filterMap (·.1) = [Str.ofString "default"] := by intro _; rfl) :
    Ev g (.Call (.Name "min" p) [a] [⟨some "default", b, kpos⟩] pos) ρ B (.int (minO ns dv)) B2 := by
  refine ⟨fun X hX => PE.imp (pe_callBK (cr_minDef hX.calm hX.room.units) (hg.at hX) (by rw [hX.hm]; exact hm) (by decide +kernel) (pa_cons (ha.h X hX) pa_nil (hs X.env)) (pk_cons (hb.h X hX) pk_nil) (by decide) (by decide) (he X.env) (hpl X.env) (hall X.env) (hnone X.env) (hks X.env)) fun σ H Q ⟨c, F, R, q⟩ =>
    ⟨c, F, R, fun v H1 F1 R1 e1 hv _ => ⟨c, F1, R1, fun w H2 F2 R2 e2 hw _ => ?_⟩⟩⟩
  cases hw
  have hv2 : Rep g.T.K c.β F2 (.lst (ns.map .int)) v := Rep.mono e2 hv
  clear hv
  cases hv2 with
  | lst h1 h2 h3 =>
    cases h3.ints
    exact ⟨_, ns, dv, rfl, rfl, SqL.sub R2.sub h1, q _ H2 F2 R2 (e1.trans e2) (.int _) apart_d⟩

/-! ### sorted, min of data -/
theorem eachIs_of {α : Type} {K : PySem.W.Frag} {β : Option Addr} {F : Hp} (em : α → D) : ∀ {bs : List α} {vs : List V} {us : List Value}, RepAll K β F (bs.map em) vs → Vals vs us → PySem.W.EachIs (fun u b => ∃ v, RelV v u ∧ Rep K β F (em b) v) us bs
  | [], _, _, .nil, .nil => .nil
  | b :: bs, _, _, .cons h t, .cons r s => .cons ⟨_, r, h⟩ (eachIs_of em t s)
theorem eachIs_to {α : Type} {K : PySem.W.Frag} {β : Option Addr} {F : Hp} (em : α → D) : ∀ {bs : List α} {us : List Value}, PySem.W.EachIs (fun u b => ∃ v, RelV v u ∧ Rep K β F (em b) v) us bs → ∃ vs, RepAll K β F (bs.map em) vs ∧ Vals vs us
  | [], _, .nil => ⟨[], .nil, .nil⟩
  | b :: bs, _, .cons ⟨v, r, h⟩ t => by
    obtain ⟨vs, h1, h2⟩ := eachIs_to em t
    exact ⟨v :: vs, .cons h h1, .cons r h2⟩
theorem eachIs_imp {α β : Type} {R R' : α → β → Prop} (w : ∀ a b, R a b → R' a b) : ∀ {as : List α} {bs : List β}, PySem.W.EachIs R as bs → PySem.W.EachIs R' as bs
  | _, _, .nil => .nil
  | _, _, .cons h t => .cons (w _ _ h) (eachIs_imp w t)
theorem cr_sortData {X : Cx} {α : Type} (em : α → D) (enc : α → PyData) (bs : List α) (β : Option Addr) (F : Hp) (hpy : ∀ b, (em b).py = some (enc b)) (hal : PySem.W.AllAlike (bs.map enc)) (hk : PySem.W.Sortable (bs.map enc)) (hd : ∀ b, (enc b).depth ≤ 30) (hu : X.A.units + 64 < cLine) :
    CallR X (.builtin "sorted") (fun xs H Q => ∃ (a : Addr) (vs : List V), xs = [.ref a] ∧ SqL X.K H a vs ∧ RepAll X.K β F (bs.map em) vs ∧ Same F H ∧ ∀ (p : Addr) (ws : List V), H p = none → RepAll X.K β F ((bs.mergeSort (PySem.W.dataLe false enc)).map em) ws → ws.length ≤ sizeLine → Q (.ref p) (upd H p (.lst ws))) := by
  intro pins s σ H xs us Q I r h
  obtain ⟨a, vs, rfl, hs, hr, hsub, q⟩ := h
  obtain rfl := Vals.ref1 r
  obtain ⟨its, rv, hl, hz⟩ := I.list hs
  have hlen := hr.length
  rw [List.length_map] at hlen
  refine PySem.W.sorted_data (bs := bs) (enc := enc) hl.isList (eachIs_of em hr rv) (eachIs_imp (fun u b ⟨v, h1, h2⟩ => Dp.reads I _ _ _ (h2.py hsub (hpy b)) h1) (eachIs_of em hr rv)) hal hk (by rw [hlen]; exact hz) (fun b _ => by have := hd b; omega) fun out h1 h2 => ?_
  obtain ⟨ws, g1, g2⟩ := eachIs_to em h2
  obtain ⟨ep, he'⟩ := PyProof.Rows.sortedAll_at s.heap its out.toArray
  have hw : ws.length ≤ sizeLine := by
    rw [← g1.length, List.length_map, List.length_mergeSort, hlen]
    exact hz
  exact ⟨.ref _, upd H (s.heap.objs.size + 1) (.lst ws), I.laid (t' := s.toks) (fun _ _ => PyProof.Rows.sortedAll_old) (Nat.le_succ _) ⟨hw, out, ep, g2, he'⟩, rfl, q _ ws (I.hok.fresh (Nat.le_succ _)) g1 hw⟩
theorem k_sortD {α : Type} (em : α → D) (enc : α → PyData) (bs : List α) (hpy : ∀ b, (em b).py = some (enc b)) (hal : PySem.W.AllAlike (bs.map enc)) (hk : PySem.W.Sortable (bs.map enc)) (hd : ∀ b, (enc b).depth ≤ 30) :
    CallD g (.builtin "sorted") [.lst (bs.map em)] (.o (.l ((bs.mergeSort (PySem.W.dataLe false enc)).map em))) := by
  intro X hX
  refine ⟨fun xs H Q => ∃ (β : Option Addr) (F : Hp) (a : Addr) (vs : List V), xs = [.ref a] ∧ SqL X.K H a vs ∧ RepAll X.K β F (bs.map em) vs ∧ Same F H ∧ ∀ (p : Addr) (ws : List V), H p = none → RepAll X.K β F ((bs.mergeSort (PySem.W.dataLe false enc)).map em) ws → ws.length ≤ sizeLine → Q (.ref p) (upd H p (.lst ws)),
    fun pins s σ H xs us Q I r ⟨β, F, h⟩ => cr_sortData em enc bs β F hpy hal hk hd hX.room.units pins s σ H xs us Q I r h, fun c ρ B σ H F vs Q R hvs q => ?_⟩
  obtain ⟨v, rfl, h1⟩ := all1 hvs
  cases h1 with
  | lst h1 h2 h3 =>
    refine ⟨c.β, F, _, _, rfl, SqL.sub R.sub h1, by rw [hX.hK]; exact h3, R.sub, fun p ws np hw hz => ?_⟩
    rw [hX.hK] at hw
    exact q _ _ F (R.newO np) (Same.refl F) ⟨p, rfl, OwnAt.new' R np ⟨_, rfl, hz, hw⟩⟩ (R.apart np)
/-- min of a list of data -/
theorem cr_minData {X : Cx} {α : Type} (em : α → D) (enc : α → PyData) (b0 : α) (bs : List α) (r0 : α) (β : Option Addr) (F : Hp) (hpy : ∀ b, (em b).py = some (enc b)) (hal : PySem.W.AlikeAll ((b0 :: bs).map enc)) (hd : PyData.depthAll ((b0 :: bs).map enc) ≤ 30)
    (hm : PySem.W.minD (enc b0) (bs.map enc) = enc r0) (inj : ∀ b ∈ b0 :: bs, PySem.W.alike (enc b) (enc r0) = true → enc b = enc r0 → em b = em r0) (hc : X.calm = true) (hu : X.A.units + 64 < cLine) :
    CallR X (.builtin "min") (fun xs H Q => ∃ (a : Addr) (vs : List V), xs = [.ref a] ∧ SqL X.K H a vs ∧ RepAll X.K β F ((b0 :: bs).map em) vs ∧ Same F H ∧ ∀ v, Rep X.K β F (em r0) v → Q v H) := by
  intro pins s σ H xs us Q I r h
  obtain ⟨a, vs, rfl, hs, hr, hsub, q⟩ := h
  obtain rfl := Vals.ref1 r
  obtain ⟨its, rv, hl, hz⟩ := I.list hs
  have pys : ∀ l : List α, D.pys (l.map em) = some (l.map enc) := by
    intro l
    induction l with
    | nil => rfl
    | cons b l ih =>
      rw [List.map_cons, List.map_cons]
      unfold D.pys
      rw [hpy b, ih]
  obtain ⟨as, hrd⟩ := Dp.readsAll I _ _ _ (RepAll.py hsub hr (pys _)) rv
  refine PySem.W.min_list_data (I.ok.hd hc) hl.isList (x := enc b0) (xs := bs.map enc) hrd hal (by rw [List.map_cons] at hd; omega) fun i u h' tk bs' hv rd hk => ?_
  rw [hm] at rd
  have hv' : its[i]? = some u := by rw [← hv]; simp
  have hlen := rv.length
  obtain ⟨hi, _⟩ := List.getElem?_eq_some_iff.mp hv'
  have hx : vs[i]? = some vs[i] := List.getElem?_eq_getElem (by omega)
  obtain ⟨u', hu', ru⟩ := rv.get hx
  rw [hv'] at hu'
  cases hu'
  obtain ⟨d, hd1, hrep⟩ := hr.get' hx
  rw [List.getElem?_map] at hd1
  obtain ⟨b, hb, rfl⟩ := Option.map_eq_some_iff.mp hd1
  have hbm : b ∈ b0 :: bs := List.mem_of_getElem? hb
  have I2 : Inv X pins σ H { s with heap := h', toks := tk } := I.kept hk
  obtain ⟨as2, rd2⟩ := Dp.reads I2 _ _ _ (hrep.py hsub (hpy b)) ru
  have hr0 : enc r0 ∈ (b0 :: bs).map enc := by
    rw [← hm]
    unfold PySem.W.minD
    have : ∀ (l : List PyData) (x : PyData), l.foldl (fun a y => if PySem.W.dataLt y a then y else a) x ∈ x :: l := by
      intro l
      induction l with
      | nil => intro x; exact List.mem_cons_self
      | cons y l ih =>
        intro x
        rw [List.foldl_cons]
        have := ih (if PySem.W.dataLt y x then y else x)
        rcases List.mem_cons.mp this with e | e
        · rw [e]
          split
          · exact List.mem_cons_of_mem _ List.mem_cons_self
          · exact List.mem_cons_self
        · exact List.mem_cons_of_mem _ (List.mem_cons_of_mem _ e)
    exact this _ _
  have hab : PySem.W.alike (enc b) (enc r0) = true := hal.1 _ (List.mem_map.mpr ⟨b, hbm, rfl⟩) _ hr0
  have he : enc b = enc r0 := PySem.W.alike_unique _ _ _ _ _ hab rd2 rd
  refine ⟨vs[i], H, I2, ru, q _ ?_⟩
  rw [← inj b hbm hab he]
  exact hrep
theorem k_minD {α : Type} (em : α → D) (enc : α → PyData) (b0 : α) (bs : List α) (r0 : α) (hpy : ∀ b, (em b).py = some (enc b)) (hal : PySem.W.AlikeAll ((b0 :: bs).map enc)) (hd : PyData.depthAll ((b0 :: bs).map enc) ≤ 30)
    (hm : PySem.W.minD (enc b0) (bs.map enc) = enc r0) (inj : ∀ b ∈ b0 :: bs, enc b = enc r0 → em b = em r0) : CallD g (.builtin "min") [.lst ((b0 :: bs).map em)] (.d (em r0)) := by
  intro X hX
  refine ⟨fun xs H Q => ∃ (β : Option Addr) (F : Hp) (a : Addr) (vs : List V), xs = [.ref a] ∧ SqL X.K H a vs ∧ RepAll X.K β F ((b0 :: bs).map em) vs ∧ Same F H ∧ ∀ v, Rep X.K β F (em r0) v → Q v H,
    fun pins s σ H xs us Q I r ⟨β, F, h⟩ => cr_minData em enc b0 bs r0 β F hpy hal hd hm (fun b hb _ => inj b hb) hX.calm hX.room.units pins s σ H xs us Q I r h, fun c ρ B σ H F vs Q R hvs q => ?_⟩
  obtain ⟨v, rfl, h1⟩ := all1 hvs
  cases h1 with
  | lst h1 h2 h3 =>
    exact ⟨c.β, F, _, _, rfl, SqL.sub R.sub h1, by rw [hX.hK]; exact h3, R.sub, fun w hw => q _ H F R (Same.refl F) (by rw [hX.hK] at hw; exact hw) apart_d⟩
end
end PD
namespace PD
open PySem PySem.Spec PyProof.Rows L2 RZ

/-! ### {k: v for .. for ..}: two clauses, over the machine -/
section
variable {prog : Program} {w : World} {A : Around} {R : Result → Shared → Prop} {s : Shared} {kx vx t0 i0 t1 i1 : Expr} {if0 if1 : List Expr} {sc : Scope} {pos : Pos} {it : Value} {D : Addr} {env : Env}
abbrev dc2 (kx vx t0 i0 t1 i1 : Expr) (if0 if1 : List Expr) (sc : Scope) (pos : Pos) : Expr := .DictComp kx vx [⟨t0, i0, if0, 0⟩, ⟨t1, i1, if1, 0⟩] sc pos
theorem dc2_out (kx vx t0 i0 t1 i1 : Expr) (if0 if1 : List Expr) (sc : Scope) (pos : Pos) (it acc : Value) (env : Env) : compTurn (dc2 kx vx t0 i0 t1 i1 if0 if1 sc pos) 0 it acc env = (do
      standAt i0.pos
      match ← pyNext it with
      | none => pure (.done .next)
      | some v =>
        letOwnedTupleGo t0 it v
        assign t0 env v
        let mut ok := true
        for c in if0 do
          if ok then ok ← isTrue c env (eval c env)
        if ok then
          let x ← eval i1 env
          standAt i1.pos
          let x ← foldedSetIterable i1 env x
          let _ ← runOwn (.compStart (dc2 kx vx t0 i0 t1 i1 if0 if1 sc pos) 1 (← holding [x] (pyIter x)) acc env) env
        again (.compLoop (dc2 kx vx t0 i0 t1 i1 if0 if1 sc pos) 0 it acc env)) := by rfl
theorem dc2_in (kx vx t0 i0 t1 i1 : Expr) (if0 if1 : List Expr) (sc : Scope) (pos : Pos) (it : Value) (D : Addr) (env : Env) : compTurn (dc2 kx vx t0 i0 t1 i1 if0 if1 sc pos) 1 it (.ref D) env = (do
      standAt i1.pos
      match ← pyNext it with
      | none => pure (.done .next)
      | some v =>
        letOwnedTupleGo t1 it v
        assign t1 env v
        let mut ok := true
        for c in if1 do
          if ok then ok ← isTrue c env (eval c env)
        if ok then
          (do
            let kv ← eval kx env
            let vv ← holding [kv] (eval vx env)
            standAt { kx.pos with endLine := vx.pos.endLine, endCol := vx.pos.endCol }
            holding [kv, vv] (dictSet D kv vv))
        again (.compLoop (dc2 kx vx t0 i0 t1 i1 if0 if1 sc pos) 1 it (.ref D) env)) := by rfl
/-- nothing is raised -/
abbrev NoX : Value → Shared → Prop := fun _ _ => False
theorem noX {α : Type} {M : Model} {t : Sem α} {Q Q' : α → Shared → Prop} {E : Value → Shared → Prop} {s : Shared} (h : wpAny M A t Q NoX s) (w : ∀ a s, Q a s → Q' a s) : wpAny M A t Q' E s := wpAny_mono h w fun _ _ z => False.elim z
abbrev tests (ifs : List Expr) (env : Env) : Sem Bool := forIn ifs true fun c r => if r = true then do let ok ← isTrue c env (eval c env); pure (ForInStep.yield ok) else pure (ForInStep.yield r)
/-- the outer loop -/
theorem dc2_loop0 {acc : Value} (hs : ∀ x, foldedSetIterable i1 env x = pure x) (J : Nat → Shared → Prop)
    (turn : ∀ n s, J n s → wpAny (model prog w) A (pyNext it) (fun r a => match r with
      | none => R (.ok .next) a
      | some v => wpAny (model prog w) A (letOwnedTupleGo t0 it v) (fun _ b => wpAny (model prog w) A (assign t0 env v) (fun _ c => wpAny (model prog w) A (tests if0 env) (fun ok d =>
          if ok = true then wpAny (model prog w) A (eval i1 env) (fun x e => wpAny (model prog w) A (pyIter x) (fun it1 f =>
            codeAny (model prog w) A (.compStart (dc2 kx vx t0 i0 t1 i1 if0 if1 sc pos) 1 it1 acc env) (fun r z => match r with | .ok _ => ∃ m, m < n ∧ J m z | .error _ => False) f) NoX e) NoX d
          else ∃ m, m < n ∧ J m d) NoX c) NoX b) NoX a) NoX s)
    (n : Nat) (h : J n s) : codeAny (model prog w) A (.compLoop (dc2 kx vx t0 i0 t1 i1 if0 if1 sc pos) 0 it acc env) R s := by
  refine codeAny_loop rfl J (fun n s hJ => ?_) n h
  show wpAny _ A ((compTurn (dc2 kx vx t0 i0 t1 i1 if0 if1 sc pos) 0 it acc env).onRaise (fun x => do noteFrame x env; theTreesLotGoes x)) _ _ s
  refine wpAny_noted ?_
  rw [dc2_out]
  refine wpAny_bind (wpAny_standAt (wpAny_bind (noX (turn n s hJ) fun r a ha => ?_)))
  match r, ha with
  | none, ha => exact wpAny_pure ha
  | some v, ha =>
    refine wpAny_bind (noX ha fun _ b hb => wpAny_bind (noX hb fun _ c hc => wpAny_bind (noX hc fun ok d hd => ?_)))
    match ok, hd with
    | false, hd => exact wpAny_pure ⟨rfl, hd⟩
    | true, hd =>
      refine wpAny_bind (noX hd fun x e he => wpAny_bind (wpAny_standAt (wpAny_bind (wpAny_of_eq (hs x) (wpAny_bind (wpAny_holding (noX he fun it1 f hf => wpAny_bind (wpAny_runOwn ?_))))))))
      rw [Around.mark_none]
      refine codeAny_mono hf fun r z hz => ?_
      match r, hz with
      | .ok _, hz => exact wpAny_pure ⟨rfl, hz⟩
      | .error _, hz => exact hz.elim
/-- the inner loop -/
theorem dc2_loop1 (J : Nat → Shared → Prop)
    (turn : ∀ n s, J n s → wpAny (model prog w) A (pyNext it) (fun r a => match r with
      | none => R (.ok .next) a
      | some v => wpAny (model prog w) A (letOwnedTupleGo t1 it v) (fun _ b => wpAny (model prog w) A (assign t1 env v) (fun _ c => wpAny (model prog w) A (tests if1 env) (fun ok d =>
          if ok = true then wpAny (model prog w) A (eval kx env) (fun u e => wpAny (model prog w) A (eval vx env) (fun u2 f => wpAny (model prog w) A (dictSet D u u2) (fun _ z => ∃ m, m < n ∧ J m z) NoX f) NoX e) NoX d
          else ∃ m, m < n ∧ J m d) NoX c) NoX b) NoX a) NoX s)
    (n : Nat) (h : J n s) : codeAny (model prog w) A (.compLoop (dc2 kx vx t0 i0 t1 i1 if0 if1 sc pos) 1 it (.ref D) env) R s := by
  refine codeAny_loop rfl J (fun n s hJ => ?_) n h
  show wpAny _ A ((compTurn (dc2 kx vx t0 i0 t1 i1 if0 if1 sc pos) 1 it (.ref D) env).onRaise (fun x => do noteFrame x env; theTreesLotGoes x)) _ _ s
  refine wpAny_noted ?_
  rw [dc2_in]
  refine wpAny_bind (wpAny_standAt (wpAny_bind (noX (turn n s hJ) fun r a ha => ?_)))
  match r, ha with
  | none, ha => exact wpAny_pure ha
  | some v, ha =>
    refine wpAny_bind (noX ha fun _ b hb => wpAny_bind (noX hb fun _ c hc => wpAny_bind (noX hc fun ok d hd => ?_)))
    match ok, hd with
    | false, hd => exact wpAny_pure ⟨rfl, hd⟩
    | true, hd => exact wpAny_bind (wpAny_bind (noX hd fun u e he => wpAny_bind (wpAny_holding (noX he fun u2 f hf => wpAny_bind (wpAny_standAt (wpAny_holding (noX hf fun _ z hz => wpAny_pure ⟨rfl, hz⟩)))))))
theorem dc2_start1 {acc : Value} (h0 : codeAny (model prog w) A (.compLoop (dc2 kx vx t0 i0 t1 i1 if0 if1 sc pos) 1 it acc env) R s)
    (h : wpAny (model prog w) A (pyIter it) (fun it' s' => codeAny (model prog w) A (.compLoop (dc2 kx vx t0 i0 t1 i1 if0 if1 sc pos) 1 it' acc env) R s') NoX s) :
    codeAny (model prog w) A (.compStart (dc2 kx vx t0 i0 t1 i1 if0 if1 sc pos) 1 it acc env) R s := by
  refine codeAny_of_tree ?_
  show wpAny _ _ ((compStart (dc2 kx vx t0 i0 t1 i1 if0 if1 sc pos) 1 it acc env).onRaise (fun x => do noteFrame x env; standAt theWindowsPlace)) _ _ s
  refine wpAny_notedAt ?_
  unfold compStart
  show wpAny _ _ (ask >>= _) _ _ s
  refine wpAny_bind (wpAny_askSetting (wpAny_ite ?_))
  split
  · first
      | exact wpAny_pure (And.intro rfl h0)
      | exact wpAny_bind (wpAny_pure (wpAny_pure (And.intro rfl h0)))
  · first
      | exact wpAny_bind (wpAny_rule (wpAny_bind (wpAny_standAt (wpAny_bind (noX h fun it' s' h' => wpAny_pure (And.intro rfl h'))))))
      | (refine wpAny_bind (wpAny_rule ?_); show wpAny _ _ (standAt i1.pos >>= _) _ _ s; exact wpAny_bind (wpAny_standAt (wpAny_bind (noX h fun it' s' h' => wpAny_pure (And.intro rfl h')))))
end
end PD
namespace PD
open PySem PySem.Spec PyProof.Rows L2 RZ
section
variable {X : Cx}
/-- the reading of {k: v for .. for ..}; L: the new dict; N0, N1: what an outer, an inner turn is to reach -/
def tDc2 (wi : TI) (g : TG) (tt : TT) (wi1 : TI) (g1 : TG) (tt1 : TT) (tk tv : TE) (vs vs1 : List Nat) : TE := fun σ H Q => wi σ H fun J Ha => ∀ L, Ha L = none → ∃ W : Nat → Nat → Hp → Prop, (∃ m, W 0 m (upd Ha L (.dK []))) ∧ ∀ i m H, W i m H →
  (J.stop i H ∧ Q (.ref L) H) ∨ (J.go i H ∧ ∃ N0 : Hp → Prop, (∀ H', N0 H' → ∃ m', m' < m ∧ W (i + 1) m' H') ∧ ∀ x H', J.yld i H x H' → g x (wipe σ vs) H' fun σa Hb => wipe σa vs = wipe σ vs ∧ tt σa Hb fun b Hc =>
    if b = true then wi1 σa Hc fun J1 Hd => ∃ W1 : Nat → Nat → Hp → Prop, (∃ m, W1 0 m Hd) ∧ ∀ j k H, W1 j k H →
      (J1.stop j H ∧ N0 H) ∨ (J1.go j H ∧ ∃ N1 : Hp → Prop, (∀ H', N1 H' → ∃ k', k' < k ∧ W1 (j + 1) k' H') ∧ ∀ x H', J1.yld j H x H' → g1 x (wipe σa vs1) H' fun σb He => wipe σb vs1 = wipe σa vs1 ∧ tt1 σb He fun b Hf =>
        if b = true then tk σb Hf fun y Hg => tv σb Hg fun z Hh => ∃ kvs k, y = kV k ∧ Hh L = some (.dK kvs) ∧ kvs.length < sizeLine ∧ N1 (upd Hh L (.dK (putK kvs k z))) else N1 Hf)
    else N0 Hc)
theorem dc2_core {pins : List (Addr × Obj)} {s : Shared} {σ : L2.St} {H : Hp} {Q : VK} {kx vx tg iter tg1 iter1 : Expr} {ifs ifs1 : List Expr} {scope : Scope} {own : List (Str × Nat)} {vs1 : List Nat} {pos pos' : Pos} {wi wi1 : TI} {g g1 : TG} {tt tt1 : TT} {tk tv : TE} {use : Option (Value → Sem Unit)} {Qf : Value → Shared → Prop}
    (hc : X.calm = true) (hN : X.N.Nodup) (I : Inv X pins σ H s) (hi : PI X tg iter wi) (ok : BlkOk X.N X.env.scope scope own) (hv : ∀ i ∈ vs1, i ∈ own.map (·.2))
    (parts : ∀ (s : Shared) (H : Hp) (C : Addr) (cl : List (Str × Addr)) (fp : List Addr), let Y := X.blk s H scope (compEnvC scope cl C X.env) fp
      PG Y tg g ∧ PTs Y ifs tt ∧ PI Y tg1 iter1 wi1 ∧ PG Y tg1 g1 ∧ PTs Y ifs1 tt1 ∧ PE Y kx tk ∧ PE Y vx tv)
    (hs : ∀ x, foldedSetIterable iter X.env x = pure x) (hs1 : ∀ env x, foldedSetIterable iter1 env x = pure x)
    (h : tDc2 wi g tt wi1 g1 tt1 tk tv (own.map (·.2)) vs1 σ H Q)
    (hRR : ∀ L C s' m H', Inv X pins σ H' s' → Q (.ref L) H' → s'.heap.Ns C m → FpOk X pins H' C → compPost (model X.prog X.w) X.A X.xe use Qf (.ref L) C (.ok .next) s') :
    wpAny (model X.prog X.w) X.A (comprehension (dc2 kx vx tg iter tg1 iter1 ifs ifs1 scope pos) scope X.env pos' newDict false (eval iter X.env) use) Qf X.xe s := by
  have hfree : ∀ y ∈ scope.names, y.2 = .free → ∃ c, X.env.cells.lookup y.1 = some c := fun y hy e => (ok.free y hy e).elim (fun k => I.ok.has _ (.inl k)) fun k => I.ok.has _ (.inr k)
  refine wpAny_comprehension_free (use := use) rfl hs (closure_ok hfree) ok.kind (fun y hy e => by rw [ok.uniq y hy, e])
    (thn (hi.run pins s σ H _ I h) fun xv sa hx => thn hx fun itv sb hb => ?_)
  obtain ⟨it, fp, tn, J, Hb, rfl, Ib, T, stb, fb, q⟩ := hb
  refine wpAny_newObj_type (newEnv_comp ?_)
  generalize hL : sb.heap.objs.size = L
  obtain ⟨W, ⟨m0, w0⟩, turn⟩ := q L (Ib.hok.fresh (Nat.le_of_eq hL))
  -- the new dict stands
  generalize hsc : ({ sb with heap := sb.heap.push { cls := .type "dict", data := .dict #[] } } : Shared) = sc
  have hsc' : sc.heap = sb.heap.push { cls := .type "dict", data := .dict #[] } := by rw [← hsc]
  have Ic : Inv X pins σ (upd Hb L (.dK [])) sc := by
    rw [← hsc]
    refine Ib.laid (t' := sb.toks) (fun b o e => Heap.get?_push_of_some _ e) (Nat.le_of_eq hL) ?_
    rw [← hL]
    exact dk_empty sb.heap Ib.big
  have fc : ∀ b ∈ fp, FpOk X pins (upd Hb L (.dK [])) b ∧ b < sc.heap.objs.size := fun b hb => by
    obtain ⟨o, e, _⟩ := T.obj _ _ stb b hb
    have hlt := Heap.lt_size e
    refine ⟨⟨?_, (fb b hb).2⟩, by rw [hsc', Heap.size_push]; exact Nat.lt_succ_of_lt hlt⟩
    rw [upd_ne (by rw [← hL]; exact Nat.ne_of_lt hlt)]
    exact (fb b hb).1
  have stc : tn 0 sc.heap := T.keep _ _ _ stb fun b _ o e => by rw [hsc']; exact Heap.get?_push_of_some _ e
  have Id := block_start Ic ok hN fc
  have ps := parts sc (upd Hb L (.dK [])) sc.heap.objs.size (cellsFrom (sc.heap.objs.size + 1) scope.names (cloFrom X.env.cells scope.names [])) fp
  show codeAny _ _ (.compStart (dc2 kx vx tg iter tg1 iter1 ifs ifs1 scope pos) 0 (.ref it) (.ref L) (compEnvC scope (cellsFrom (sc.heap.objs.size + 1) scope.names (cloFrom X.env.cells scope.names [])) sc.heap.objs.size X.env)) (compPost (model X.prog X.w) X.A X.xe use Qf (.ref L) sc.heap.objs.size) { sc with heap := pushCells (sc.heap.push { cls := .type "dict", data := .dict #[] }) scope.names }
  generalize hce : compEnvC scope (cellsFrom (sc.heap.objs.size + 1) scope.names (cloFrom X.env.cells scope.names [])) sc.heap.objs.size X.env = ce at Id ps ⊢
  have cL : ce.locals = sc.heap.objs.size := by subst hce; rfl
  generalize hHc : upd Hb L (.dK []) = Hc at Ic Id ps w0 fc
  obtain ⟨pg, pt, pi1, pg1, pt1, pk, pe⟩ := ps
  generalize hsd : ({ sc with heap := pushCells (sc.heap.push { cls := .type "dict", data := .dict #[] }) scope.names } : Shared) = sd at Id ⊢
  have std : tn 0 sd.heap := T.keep _ _ _ stc fun b _ o e => by rw [← hsd]; exact pushCells_keeps _ _ _ _ (Heap.get?_push_of_some _ e)
  have stat : ∀ {σ' : L2.St} {H' : Hp} {s' : Shared}, Inv (X.blk sc Hc scope ce fp) [] σ' H' s' → (∀ b ∈ fp, H' b = none) → ∀ b ∈ fp, FpOk (X.blk sc Hc scope ce fp) [] H' b := fun {σ' H' s'} I' hn b hb =>
    ⟨hn b hb, (I'.ok.exf b hb).1, I'.ok.exfs b hb, .inl hb, fun x c e => (I'.ok.exf b hb).2 x c e, fun p hp => absurd (show p ∈ ([] : List (Addr × Obj)) ++ [] from hp) (by simp)⟩
  -- what holds ahead of each outer turn
  let Out : Nat → Shared → Prop := fun n s' => ∃ i H', Inv (X.blk sc Hc scope ce fp) [] (wipe σ (own.map (·.2))) H' s' ∧ tn i s'.heap ∧ (∀ b ∈ fp, H' b = none) ∧ W i n H'
  have loop : codeAny (model X.prog X.w) X.A (.compLoop (dc2 kx vx tg iter tg1 iter1 ifs ifs1 scope pos) 0 (.ref it) (.ref L) ce) (compPost (model X.prog X.w) X.A X.xe use Qf (.ref L) sc.heap.objs.size) sd := by
    refine dc2_loop0 (hs1 ce) Out ?_ m0 ⟨0, Hc, Id, std, fun b hb => (fc b hb).1.1, w0⟩
    rintro n s5 ⟨i, H5, I5, st5, n5, w5⟩
    rcases turn i n H5 w5 with ⟨stop, qq⟩ | ⟨go, N0, hN0, step⟩
    · refine thnF (T.done (X.blk sc Hc scope ce fp) rfl rfl rfl hc i [] s5 _ H5 NoX I5 (stat I5 n5) st5 stop) fun r s6 ⟨hr, I6⟩ => ?_
      subst hr
      have I7 : Inv X pins σ H5 s6 := Ic.call' (ch := fp) I6.os I6.base I6.hok I6.bare fun b hb => let z := (fc b hb).1.2; ⟨z.2.2.1, z.1, z.2.2.2.1, z.2.2.2.2⟩
      have nC : H5 sc.heap.objs.size = none := by rw [← cL]; exact I6.free
      obtain ⟨m, hn, _⟩ := I6.loc
      exact hRR L sc.heap.objs.size s6 m H5 I7 qq (by rw [← cL]; exact hn) (Ic.fpOk (Nat.le_refl _) nC)
    · refine thnF (T.item (X.blk sc Hc scope ce fp) rfl rfl rfl hc i [] s5 _ H5 NoX I5 (stat I5 n5) st5 go) fun r s6 ⟨u, hr, h6⟩ => ?_
      subst hr
      refine thnF h6 fun _ s7 ⟨x, H7, I7, r7, y7, st7, n7⟩ => ?_
      refine thnF (pg.run _ s7 _ H7 x u _ (I7.pinned (stat I7 n7) (T.obj _ _ st7)) r7 (step x H7 y7)) fun _ s8 ⟨σ8, H8, I8, hw8, q8⟩ => ?_
      refine thnF (pt.run _ s8 σ8 H8 _ I8 q8) fun b s9 ⟨H9, I9, q9⟩ => ?_
      -- back ahead of the next outer turn, from slots that still know what the block knew
      have next : ∀ {σ9 : L2.St} {s' : Shared} {H' : Hp}, Inv (X.blk sc Hc scope ce fp) ([] ++ pinsAt fp s7.heap) σ9 H' s' → (wipe σ (own.map (·.2))).length = σ9.length → (∀ (j : Nat) v, (wipe σ (own.map (·.2)))[j]? = some (some v) → σ9[j]? = some (some v)) → N0 H' → ∃ m, m < n ∧ Out m s' := fun {σ9 s' H'} I' hl hk nx => by
        obtain ⟨m', hm, w'⟩ := hN0 H' nx
        have pin' : ∀ b ∈ fp, ∀ o, s7.heap.get? b = some o → s'.heap.get? b = some o ∧ H' b = none := fun b hb o e =>
          let z := I'.pin (b, o) (List.mem_append_right _ (List.mem_append_right _ (mem_pinsAt hb e)))
          ⟨z.1, z.2.1⟩
        refine ⟨m', hm, i + 1, H', (I'.unpinned (pins := [])).weak hl hk, T.keep _ _ _ st7 fun b hb o e => (pin' b hb o e).1, fun b hb => ?_, w'⟩
        obtain ⟨o, e, _⟩ := T.obj _ _ st7 b hb
        exact (pin' b hb o e).2
      have hl8 : (wipe σ (own.map (·.2))).length = σ8.length := by rw [← hw8, wipe_length]
      have hk8 : ∀ (j : Nat) v, (wipe σ (own.map (·.2)))[j]? = some (some v) → σ8[j]? = some (some v) ∧ j ∉ own.map (·.2) := fun j v e => by rw [← hw8] at e; exact wipe_some e
      match b, q9 with
      | false, q9 =>
        simp only [Bool.false_eq_true, if_false] at q9 ⊢
        exact next I9 hl8 (fun j v e => (hk8 j v e).1) q9
      | true, q9 =>
        simp only [if_true] at q9 ⊢
        refine thnF (pi1.run _ s9 σ8 H9 _ I9 q9) fun xv s10 hx => thnF hx fun itv s11 h11 => ?_
        obtain ⟨it1, fp1, tn1, J1, H11, rfl, I11, T1, st11, f11, W1, ⟨m1, w1⟩, turn1⟩ := h11
        have stat1 : ∀ {H' : Hp}, (∀ b ∈ fp1, H' b = none) → ∀ b ∈ fp1, FpOk (X.blk sc Hc scope ce fp) ([] ++ pinsAt fp s7.heap) H' b := fun hn b hb => ⟨hn b hb, (f11 b hb).2⟩
        let Inn : Nat → Shared → Prop := fun k s' => ∃ j H', Inv (X.blk sc Hc scope ce fp) ([] ++ pinsAt fp s7.heap) (wipe σ8 vs1) H' s' ∧ tn1 j s'.heap ∧ (∀ b ∈ fp1, H' b = none) ∧ W1 j k H'
        have inner : codeAny (model X.prog X.w) X.A (.compLoop (dc2 kx vx tg iter tg1 iter1 ifs ifs1 scope pos) 1 (.ref it1) (.ref L) ce) (fun r z => match r with | .ok _ => ∃ m, m < n ∧ Out m z | .error _ => False) s11 := by
          refine dc2_loop1 Inn ?_ m1 ⟨0, H11, I11.weak (wipe_length _ _) (fun j v e => (wipe_some e).1), st11, fun b hb => (f11 b hb).1, w1⟩
          rintro k s12 ⟨j, H12, I12, st12, n12, w12⟩
          rcases turn1 j k H12 w12 with ⟨stop1, nx1⟩ | ⟨go1, N1, hN1, step1⟩
          · refine thnF (T1.done (X.blk sc Hc scope ce fp) rfl rfl rfl hc j _ s12 (wipe σ8 vs1) H12 NoX I12 (stat1 n12) st12 stop1) fun r s13 ⟨hr, I13⟩ => ?_
            subst hr
            refine next I13 (hl8.trans (wipe_length σ8 vs1).symm) (fun j v e => ?_) nx1
            obtain ⟨e1, e2⟩ := hk8 j v e
            rw [wipe_out fun z => e2 (hv j z)]
            exact e1
          · refine thnF (T1.item (X.blk sc Hc scope ce fp) rfl rfl rfl hc j _ s12 (wipe σ8 vs1) H12 NoX I12 (stat1 n12) st12 go1) fun r s13 ⟨u1, hr, h13⟩ => ?_
            subst hr
            refine thnF h13 fun _ s14 ⟨x1, H14, I14, r14, y14, st14, n14⟩ => ?_
            refine thnF (pg1.run _ s14 (wipe σ8 vs1) H14 x1 u1 _ (I14.pinned (stat1 n14) (T1.obj _ _ st14)) r14 (step1 x1 H14 y14)) fun _ s15 ⟨σ15, H15, I15, hw15, q15⟩ => ?_
            refine thnF (pt1.run _ s15 σ15 H15 _ I15 q15) fun b1 s16 ⟨H16, I16, q16⟩ => ?_
            have next1 : ∀ {s' : Shared} {H' : Hp}, Inv (X.blk sc Hc scope ce fp) (([] ++ pinsAt fp s7.heap) ++ pinsAt fp1 s14.heap) σ15 H' s' → N1 H' → ∃ m, m < k ∧ Inn m s' := fun {s' H'} I' nx => by
              obtain ⟨m', hm, w'⟩ := hN1 H' nx
              have pin' : ∀ b ∈ fp1, ∀ o, s14.heap.get? b = some o → s'.heap.get? b = some o ∧ H' b = none := fun b hb o e =>
                let z := I'.pin (b, o) (List.mem_append_right _ (List.mem_append_right _ (mem_pinsAt hb e)))
                ⟨z.1, z.2.1⟩
              refine ⟨m', hm, j + 1, H', I'.unpinned.weak (by rw [← hw15, wipe_length]) (fun j v e => by rw [← hw15] at e; exact (wipe_some e).1), T1.keep _ _ _ st14 fun b hb o e => (pin' b hb o e).1, fun b hb => ?_, w'⟩
              obtain ⟨o, e, _⟩ := T1.obj _ _ st14 b hb
              exact (pin' b hb o e).2
            match b1, q16 with
            | false, q16 =>
              simp only [Bool.false_eq_true, if_false] at q16 ⊢
              exact next1 I16 q16
            | true, q16 =>
              simp only [if_true] at q16 ⊢
              refine thnF (pk.run _ s16 σ15 H16 _ I16 q16) fun u s17 ⟨y, H17, I17, r17, q17⟩ => ?_
              refine thnF (pe.run _ s17 σ15 H17 _ I17 q17) fun u2 s18 ⟨z, H18, I18, r18, kvs, key, hy, hD, hz, nx⟩ => ?_
              subst hy
              exact d_dictSet (X := X.blk sc Hc scope ce fp) I18 hD hz r17 r18 fun s19 I19 => next1 I19 nx
        exact dc2_start1 inner (T1.self X.A 0 _ _ _ st11 inner)
  exact codeAny_compStart_dict loop (T.self X.A 0 _ _ _ std loop)
end
end PD
namespace PD
open PySem PySem.Spec PyProof.Rows L2 RZ

/-! ### dicts of marks: int keys, all True -/
def keysD (ks : List Int) : List (Key × D) := ks.map fun k => (Sum.inl k, D.bl true)
def keysV (ks : List Int) : List (Key × V) := ks.map fun k => (Sum.inl k, V.bl true)
def insK (ks : List Int) (k : Int) : List Int := if k ∈ ks then ks else ks ++ [k]
theorem keysV_any (ks : List Int) (k : Int) : ((keysV ks).any fun kv => decide (kv.1 = Sum.inl k)) = decide (k ∈ ks) := by
  induction ks with
  | nil => rfl
  | cons j ks ih =>
    unfold keysV at ih ⊢
    rw [List.map_cons, List.any_cons, ih]
    have e : decide ((Sum.inl j : Key) = Sum.inl k) = decide (k = j) := decide_eq_decide.mpr ⟨fun h => (Sum.inl.inj h).symm, fun h => by rw [h]⟩
    show (decide ((Sum.inl j : Key) = Sum.inl k) || _) = _
    rw [e, ← Bool.decide_or]
    exact decide_eq_decide.mpr List.mem_cons.symm
theorem putK_keys (ks : List Int) (k : Int) : putK (keysV ks) (Sum.inl k) (.bl true) = keysV (insK ks k) := by
  unfold putK insK
  rw [keysV_any]
  by_cases h : k ∈ ks
  · rw [decide_eq_true h, if_pos rfl, if_pos h]
    unfold keysV
    rw [List.map_map]
    refine List.map_congr_left fun j _ => ?_
    show (if (Sum.inl j : Key) = Sum.inl k then ((Sum.inl j : Key), V.bl true) else (Sum.inl j, V.bl true)) = _
    split <;> rfl
  · rw [decide_eq_false h, if_neg Bool.false_ne_true, if_neg h]
    unfold keysV
    rw [List.map_append]
    rfl
theorem insK_len (ks : List Int) (k : Int) : (insK ks k).length ≤ ks.length + 1 := by
  unfold insK
  split
  · omega
  · rw [List.length_append]; simp
theorem zmap {α β γ : Type} (f : α → β) (h : α → γ) : ∀ ks : List α, (ks.map f).zip (ks.map h) = ks.map fun k => (f k, h k)
  | [] => rfl
  | k :: ks => by rw [List.map_cons, List.map_cons, List.zip_cons_cons, zmap f h ks, List.map_cons]
theorem ct_keys {K : PySem.W.Frag} {β : Option Addr} {F : Hp} {ks : List Int} (h : ks.length ≤ sizeLine) : CtOk K β F (.m (keysD ks)) (.dK (keysV ks)) := by
  refine ⟨ks.map Sum.inl, ks.map fun _ => .bl true, ks.map fun _ => .bl true, ?_, ?_, by rw [List.length_map, List.length_map], by rw [List.length_map]; exact h, ?_⟩
  · rw [zmap]; rfl
  · rw [zmap]; rfl
  · induction ks with
    | nil => exact .nil
    | cons k ks ih => exact .cons (.bl true) (ih (by rw [List.length_cons] at h; omega))
theorem keys_of_zip {α : Type} : ∀ {ks : List Int} {js : List Key} {ds : List D} {vs : List α}, keysD ks = js.zip ds → js.length = vs.length → ds.length = vs.length → js = ks.map Sum.inl ∧ ds = ks.map fun _ => D.bl true
  | [], [], [], _, _, _, _ => ⟨rfl, rfl⟩
  | [], [], _ :: _, vs, _, h1, h2 => by rw [← h1] at h2; cases h2
  | [], _ :: _, [], vs, _, h1, h2 => by rw [← h2] at h1; cases h1
  | k :: ks, [], ds, _, h, _, _ => by cases ds <;> cases h
  | k :: ks, _ :: _, [], _, h, _, _ => by cases h
  | k :: ks, j :: js, d :: ds, v :: vs, h, h1, h2 => by
    have h : (Sum.inl k, D.bl true) :: keysD ks = (j, d) :: js.zip ds := h
    injection h with e1 e2
    cases e1
    obtain ⟨r1, r2⟩ := keys_of_zip (vs := vs) e2 (by simpa using h1) (by simpa using h2)
    rw [r1, r2]
    exact ⟨rfl, rfl⟩
  | _ :: _, _ :: _, _ :: _, [], _, h1, _ => by cases h1
theorem keys_rep {K : PySem.W.Frag} {β : Option Addr} {F : Hp} : ∀ {ks : List Int} {vs : List V}, RepAll K β F (ks.map fun _ => D.bl true) vs → (ks.map (Sum.inl : Int → Key)).zip vs = keysV ks
  | [], _, .nil => rfl
  | k :: ks, _, .cons h t => by
    cases h
    rw [List.map_cons, List.zip_cons_cons, keys_rep t]
    rfl
theorem ct_keys_inv {K : PySem.W.Frag} {β : Option Addr} {F : Hp} {ks : List Int} {ho : HO} (h : CtOk K β F (.m (keysD ks)) ho) : ho = .dK (keysV ks) ∧ ks.length ≤ sizeLine := by
  obtain ⟨js, ds, vs, h1, h2, h3, h4, h5⟩ := h
  obtain ⟨rfl, rfl⟩ := keys_of_zip h2 h3 (h5.length)
  rw [List.length_map] at h4
  exact ⟨by rw [h1, keys_rep h5], h4⟩
theorem rep_keys_inv {K : PySem.W.Frag} {β : Option Addr} {F : Hp} {ks : List Int} {v : V} (h : Rep K β F (.dct (keysD ks)) v) : ∃ a, v = .ref a ∧ F a = some (.dK (keysV ks)) ∧ ks.length ≤ sizeLine := by
  cases h with
  | @dct a _ js ds kws vs h1 h2 h3 h4 h5 h6 =>
    obtain ⟨rfl, rfl⟩ := keys_of_zip h3 h5 (h6.length)
    subst h4
    rw [keys_rep h6] at h1 h2
    refine ⟨_, rfl, h1, ?_⟩
    unfold keysV at h2
    rw [List.length_map] at h2
    exact h2

section
variable {g : G} {ρ ρb : Rho} {B B1 B2 B3 : Bag} {a b e tg iter tg1 iter1 elt kx : Expr} {pos p kpos : Pos} {x y z d : D} {es elts ifs ifs1 : List Expr} {ds : List D} {n : Str} {scope : Scope} {own : List (Str × Nat)}
abbrev tTrue : TE := tC (.bl true)
/-- one clause -/
theorem dc_read {out : List Int} {wi : TI} {σ : L2.St} {H : Hp} {Q : VK} (hρ : noOwn (fgt ρ (own.map (·.2))) = ρb)
    (qi : ∀ (c : C0) (σ : L2.St) (H F : Hp) (Re : It → Hp → Prop), Rel g.T.K c ρ B σ H F → (∀ J H1 F1, Rel g.T.K c ρ B1 σ H1 F1 → Same F F1 → WalkD g.T.K c.β J ds F1 → Re J H1) → wi σ H Re)
    (run : LcRun (LcTurn (blkG g scope) tg kx ifs ρb (own.map (·.2))) ds B1 (out.map .int) B2) (hlen : ds.length ≤ 1000000) (h : tEv g.T.K ρ B (.o (.m (keysD (out.foldl insK [])))) B2 σ H Q) :
    tDc wi (rdG (blkG g scope) tg) (rdT (blkG g scope) ifs) (rdE (blkG g scope) kx) tTrue (own.map (·.2)) σ H Q := by
  have hz : (sizeLine : Nat) = 16777216 := sizeLine_eq
  obtain ⟨c, F, R, q⟩ := h
  refine qi c σ H F _ R fun J1 H1 F1 R1 e1 w => ?_
  intro L nL
  have n0 : c.H0 L = none := R1.H0_none nL
  have hap : ∀ (i : Nat) (ct : Ct) (q : Addr), ρ[i]? = some (.o ct) → σ[i]? = some (some (.ref q)) → q ≠ L := fun i ct p h1 h2 z => R1.apart (r := .o ct) nL ct rfl i ct p h1 h2 (by rw [z])
  refine ⟨fun i m H' => m = ds.length - i ∧ i ≤ ds.length ∧ ∃ (F' : Hp) (ks : List Int) (Bi : Bag) (rest : List Int), Rel g.T.K c ρ Bi σ H' F' ∧ Same F1 F' ∧ H' L = some (.dK (keysV ks)) ∧ F' L = none ∧ ks.length ≤ i ∧
      LcRun (LcTurn (blkG g scope) tg kx ifs ρb (own.map (·.2))) (ds.drop i) Bi (rest.map .int) B2 ∧ rest.foldl insK ks = out.foldl insK [], ⟨_, rfl, Nat.zero_le _, F1, [], B1, out, R1.newO nL, Same.refl F1, upd_same, R1.F_none nL, Nat.zero_le _, run, rfl⟩, ?_⟩
  rintro i m H' ⟨rfl, hle, F', ks, Bi, rest, R', e', hD, nF, hkl, hrun, hout⟩
  by_cases hlt : i < ds.length
  · have nb : some L ≠ c.β := R'.H_none n0
    refine .inr ⟨w.goes i H' hlt (e'.trans R'.sub), fun H2 => ∃ (F2 : Hp) (ks : List Int) (Bi : Bag) (rest : List Int), Rel g.T.K c ρ Bi σ H2 F2 ∧ Same F1 F2 ∧ H2 L = some (.dK (keysV ks)) ∧ F2 L = none ∧ ks.length ≤ i + 1 ∧
      LcRun (LcTurn (blkG g scope) tg kx ifs ρb (own.map (·.2))) (ds.drop (i + 1)) Bi (rest.map .int) B2 ∧ rest.foldl insK ks = out.foldl insK [], fun H2 h2 => ⟨ds.length - (i + 1), by omega, rfl, hlt, h2⟩, fun v H2 y => ?_⟩
    have Rb : Rel g.T.K ⟨c.β, H', F'⟩ ρb Bi (wipe σ (own.map (·.2))) H' F' := by
      rw [← hρ]
      exact (R'.fgt _).enter
    obtain ⟨d, F2, hd, R2, e2, hrep⟩ := walk_step (c := ⟨c.β, H', F'⟩) w Rb e' hlt y
    have hdrop : ds.drop i = d :: ds.drop (i + 1) := by
      obtain ⟨hl, he⟩ := List.getElem?_eq_some_iff.mp hd
      rw [List.drop_eq_getElem_cons hl, he]
    rw [hdrop] at hrun
    have keepL : ∀ {ρ2 : Rho} {B2 : Bag} {σ2 : L2.St} {H3 F3 : Hp}, Rel g.T.K ⟨c.β, H', F'⟩ ρ2 B2 σ2 H3 F3 → H3 L = some (.dK (keysV ks)) ∧ F3 L = none := fun R3 =>
      ⟨R3.fr L _ nb hD, R3.dj L (by show H' L ≠ none; rw [hD]; exact fun z => nomatch z) nF⟩
    generalize hrm : rest.map D.int = rm at hrun
    cases hrun with
    | @keep _ yy _ out' _ Bb _ hS hrest =>
      cases rest with
      | nil => cases hrm
      | cons k rest =>
        injection hrm with hk hrm
        subst hk hrm
        obtain ⟨ρ', js, b, Bm, ht, hjs, htt, hbt, hel⟩ := hS
        subst hbt
        refine ⟨ρb, d, ρ', js, ht, _, Bi, F2, R2, hrep, fun σ3 R3 hw => ⟨(hw _ hjs).trans wipe_wipe, ρ', Bi, true, Bm, htt, _, F2, R3, fun H4 F4 R4 e4 => iteT ⟨ρ', Bm, .int k, Bb, hel, _, F4, R4, fun u H5 F5 R5 e5 hu _ => ?_⟩⟩⟩
        cases hu
        obtain ⟨hD5, nF5⟩ := keepL R5
        refine ⟨keysV ks, Sum.inl k, rfl, hD5, by unfold keysV; rw [List.length_map]; omega, ?_⟩
        rw [putK_keys]
        exact ⟨F5, insK ks k, Bb, rest, (R'.leave R5).wr n0 nF5 hap, e'.trans ((e2.trans e4).trans e5), upd_same, nF5, by have := insK_len ks k; omega, hrest, hout⟩
    | @drop _ _ _ _ Bb _ hS hrest =>
      subst hrm
      obtain ⟨ρ', js, b, Bm, ht, hjs, htt, hbt, hel⟩ := hS
      subst hbt hel
      refine ⟨ρb, d, ρ', js, ht, _, Bi, F2, R2, hrep, fun σ3 R3 hw => ⟨(hw _ hjs).trans wipe_wipe, ρ', Bi, false, Bb, htt, _, F2, R3, fun H4 F4 R4 e4 => iteF ?_⟩⟩
      obtain ⟨hD4, nF4⟩ := keepL R4
      exact ⟨F4, ks, Bb, rest, R'.leave R4, (e'.trans e2).trans e4, hD4, nF4, by omega, hrest, hout⟩
  · have hie : i = ds.length := by omega
    subst hie
    rw [List.drop_length] at hrun
    generalize hrm : rest.map D.int = rm at hrun
    cases hrun
    rw [List.map_eq_nil_iff.mp hrm] at hout
    have hout' : ks = out.foldl insK [] := hout
    rw [← hout'] at q
    exact .inl ⟨w.stops H' (e'.trans R'.sub), q (.ref L) H' F' R' (e1.trans e') ⟨L, rfl, ⟨_, hD, ct_keys (by omega)⟩, n0, nF⟩ fun _ _ i ct p h1 h2 z => hap i ct p h1 h2 (V.ref.inj z).symm⟩
theorem evr_dc {out : List Int} {j : Nat} {pv : Pos} (hi : ItD g tg iter ρ B ds B1) (ok : blkC g.N g.sc scope own = true) (hρ : noOwn (fgt ρ (own.map (·.2))) = ρb)
    (run : LcRun (LcTurn (blkG g scope) tg kx ifs ρb (own.map (·.2))) ds B1 (out.map .int) B2) (hlen : ds.length ≤ 1000000)
    (hf : ∀ (env : Env) x, foldedSetIterable iter env x = pure x := by intro _ _; rfl) : EvR g (.DictComp kx (.Constant (.bool true) j pv) [⟨tg, iter, ifs, 0⟩] scope pos) ρ B (.o (.m (keysD (out.foldl insK [])))) B2 := by
  refine ⟨fun X hX => ?_⟩
  obtain ⟨wi, pi, qi⟩ := hi.h X hX
  have okX : BlkOk X.N X.env.scope scope own := by rw [hX.hN, hX.hs]; exact blkOk_by ok
  have ndX : X.N.Nodup := by rw [hX.hN]; exact hX.nd
  exact PE.imp (pe_dc hX.calm ndX pi okX (fun s H C cl fp => rdG_ok (hX.blk scope s H C cl fp)) (fun s H C cl fp => rdT_ok (hX.blk scope s H C cl fp)) (fun s H C cl fp => rdE_ok (hX.blk scope s H C cl fp)) (fun s H C cl fp => pe_bl) (hf X.env)) fun σ H Q h => dc_read hρ qi run hlen h

/-! ### two clauses -/
/-- an outer turn: out it puts -/
def L2Turn (g : G) (tg tg1 iter1 elt : Expr) (ifs ifs1 : List Expr) (ρ : Rho) (is vs1 : List Nat) (d : D) (Ba : Bag) (out : List D) (Bb : Bag) : Prop :=
  ∃ ρ' js b Bm, Tg g tg ρ d ρ' js ∧ (∀ i ∈ js, i ∈ is) ∧ TsL g ifs ρ' Ba b Bm ∧ (b = false → out = [] ∧ Bb = Bm) ∧
    (b = true → ∃ ds1 Bn ρ1, ItD g tg1 iter1 ρ' Bm ds1 Bn ∧ noOwn (fgt ρ' vs1) = ρ1 ∧ LcRun (LcTurn g tg1 elt ifs1 ρ1 vs1) ds1 Bn out Bb ∧ ds1.length ≤ 1000)
inductive L2Run (S : D → Bag → List D → Bag → Prop) : List D → Bag → List D → Bag → Prop
  | nil {B : Bag} : L2Run S [] B [] B
  | cons {d : D} {ds o1 out : List D} {B B1 B2 : Bag} : S d B o1 B1 → L2Run S ds B1 out B2 → L2Run S (d :: ds) B (o1 ++ out) B2
/-- the sources of the inner clause, at whatever state they are told -/
def rdI (g : G) (tg1 iter1 : Expr) : TI := fun σ H Re => ∃ ρ' Bm ds1 Bn, ItD g tg1 iter1 ρ' Bm ds1 Bn ∧ ∃ c F, Rel g.T.K c ρ' Bm σ H F ∧ ∀ J H1 F1, Rel g.T.K c ρ' Bn σ H1 F1 → Same F F1 → WalkD g.T.K c.β J ds1 F1 → Re J H1
theorem rdI_ok {X : Cx} (hX : At g X) : PI X tg1 iter1 (rdI g tg1 iter1) := ⟨fun pins s σ H Re I ⟨ρ', Bm, ds1, Bn, hi, c, F, R, q⟩ => by
  obtain ⟨wi, pi, qi⟩ := hi.h X hX
  exact pi.run pins s σ H Re I (qi c σ H F Re R q)⟩
theorem keysL {ks : List Int} : (keysV ks).length = ks.length := by unfold keysV; rw [List.length_map]
theorem dc2_read {out : List Int} {wi : TI} {σ : L2.St} {H : Hp} {Q : VK} {vs1 : List Nat} (hρ : noOwn (fgt ρ (own.map (·.2))) = ρb) (hvs : ∀ i ∈ vs1, i ∈ own.map (·.2))
    (qi : ∀ (c : C0) (σ : L2.St) (H F : Hp) (Re : It → Hp → Prop), Rel g.T.K c ρ B σ H F → (∀ J H1 F1, Rel g.T.K c ρ B1 σ H1 F1 → Same F F1 → WalkD g.T.K c.β J ds F1 → Re J H1) → wi σ H Re)
    (run : L2Run (L2Turn (blkG g scope) tg tg1 iter1 kx ifs ifs1 ρb (own.map (·.2)) vs1) ds B1 (out.map .int) B2) (hlen : ds.length ≤ 1000) (h : tEv g.T.K ρ B (.o (.m (keysD (out.foldl insK [])))) B2 σ H Q) :
    tDc2 wi (rdG (blkG g scope) tg) (rdT (blkG g scope) ifs) (rdI (blkG g scope) tg1 iter1) (rdG (blkG g scope) tg1) (rdT (blkG g scope) ifs1) (rdE (blkG g scope) kx) tTrue (own.map (·.2)) vs1 σ H Q := by
  have hz : (sizeLine : Nat) = 16777216 := sizeLine_eq
  obtain ⟨c, F, R, q⟩ := h
  refine qi c σ H F _ R fun J1 H1 F1 R1 e1 w => ?_
  intro L nL
  have n0 : c.H0 L = none := R1.H0_none nL
  have hap : ∀ (i : Nat) (ct : Ct) (q : Addr), ρ[i]? = some (.o ct) → σ[i]? = some (some (.ref q)) → q ≠ L := fun i ct p h1 h2 z => R1.apart (r := .o ct) nL ct rfl i ct p h1 h2 (by rw [z])
  refine ⟨fun i m H' => m = ds.length - i ∧ i ≤ ds.length ∧ ∃ (F' : Hp) (ks : List Int) (Bi : Bag) (rest : List Int), Rel g.T.K c ρ Bi σ H' F' ∧ Same F1 F' ∧ H' L = some (.dK (keysV ks)) ∧ F' L = none ∧ ks.length ≤ i * 1000 ∧
      L2Run (L2Turn (blkG g scope) tg tg1 iter1 kx ifs ifs1 ρb (own.map (·.2)) vs1) (ds.drop i) Bi (rest.map .int) B2 ∧ rest.foldl insK ks = out.foldl insK [], ⟨_, rfl, Nat.zero_le _, F1, [], B1, out, R1.newO nL, Same.refl F1, upd_same, R1.F_none nL, Nat.zero_le _, run, rfl⟩, ?_⟩
  rintro i m H' ⟨rfl, hle, F', ks, Bi, rest, R', e', hD, nF, hkl, hrun, hout⟩
  by_cases hlt : i < ds.length
  · have nb : some L ≠ c.β := R'.H_none n0
    have nL' : H' L ≠ none := by rw [hD]; exact fun z => nomatch z
    refine .inr ⟨w.goes i H' hlt (e'.trans R'.sub), fun H2 => ∃ (F2 : Hp) (ks : List Int) (Bi : Bag) (rest : List Int), Rel g.T.K c ρ Bi σ H2 F2 ∧ Same F1 F2 ∧ H2 L = some (.dK (keysV ks)) ∧ F2 L = none ∧ ks.length ≤ (i + 1) * 1000 ∧
      L2Run (L2Turn (blkG g scope) tg tg1 iter1 kx ifs ifs1 ρb (own.map (·.2)) vs1) (ds.drop (i + 1)) Bi (rest.map .int) B2 ∧ rest.foldl insK ks = out.foldl insK [], fun H2 h2 => ⟨ds.length - (i + 1), by omega, rfl, hlt, h2⟩, fun v H2 y => ?_⟩
    have Rb : Rel g.T.K ⟨c.β, H', F'⟩ ρb Bi (wipe σ (own.map (·.2))) H' F' := by
      rw [← hρ]
      exact (R'.fgt _).enter
    obtain ⟨d, F2, hd, R2, e2, hrep⟩ := walk_step (c := ⟨c.β, H', F'⟩) w Rb e' hlt y
    have hdrop : ds.drop i = d :: ds.drop (i + 1) := by
      obtain ⟨hl, he⟩ := List.getElem?_eq_some_iff.mp hd
      rw [List.drop_eq_getElem_cons hl, he]
    rw [hdrop] at hrun
    generalize hrm : rest.map D.int = rm at hrun
    cases hrun with
    | @cons _ _ o1 out' _ Bb _ hS hrest =>
      obtain ⟨r1, r2, hr12, hr1, hr2⟩ := List.map_eq_append_iff.mp hrm
      subst hr1 hr2 hr12
      obtain ⟨ρ', js, b, Bm, ht, hjs, htt, hb0, hb1⟩ := hS
      refine ⟨ρb, d, ρ', js, ht, _, Bi, F2, R2, hrep, fun σ3 R3 hw => ⟨(hw _ hjs).trans wipe_wipe, ρ', Bi, b, Bm, htt, _, F2, R3, fun H4 F4 R4 e4 => ?_⟩⟩
      cases b with
      | false =>
        obtain ⟨ho, rfl⟩ := hb0 rfl
        refine iteF ?_
        rw [List.map_eq_nil_iff.mp ho] at hout
        exact ⟨F4, ks, Bb, r2, R'.leave R4, (e'.trans e2).trans e4, R4.fr L _ nb hD, R4.dj L nL' nF, by omega, hrest, hout⟩
      | true =>
        obtain ⟨ds1, Bn, ρ1, hit, hρ1, hrun1, hl1⟩ := hb1 rfl
        refine iteT ⟨ρ', Bm, ds1, Bn, hit, _, F4, R4, fun J2 H5 F5 R5 e5 w5 => ?_⟩
        have e05 : Same F' F5 := (e2.trans e4).trans e5
        -- the inner loop: by its turn
        have nb1 : ∀ (i : Nat) (ct : Ct), ρ1[i]? ≠ some (.o ct) := fun i ct z => by rw [← hρ1] at z; exact noOwn_o z
        have hsh : ρ1.length = (wipe σ3 vs1).length ∧ ∀ (i : Nat) (x : D), ρ1[i]? = some (.d x) → ∃ v, (wipe σ3 vs1)[i]? = some (some v) ∧ Rep g.T.K c.β F5 x v := by
          have z := (R5.fgt vs1)
          refine ⟨by rw [← hρ1]; unfold noOwn; rw [List.length_map]; exact z.len, fun i x h => ?_⟩
          rw [← hρ1] at h
          exact z.dat i x (noOwn_d h)
        refine ⟨fun j m H6 => m = ds1.length - j ∧ j ≤ ds1.length ∧ ∃ (F6 : Hp) (ks6 : List Int) (B6 : Bag) (rest6 : List Int), Rel g.T.K c ρ B6 σ H6 F6 ∧ Same F5 F6 ∧ H6 L = some (.dK (keysV ks6)) ∧ F6 L = none ∧ ks6.length ≤ i * 1000 + j ∧
            LcRun (LcTurn (blkG g scope) tg1 kx ifs1 ρ1 vs1) (ds1.drop j) B6 (rest6.map .int) Bb ∧ (rest6 ++ r2).foldl insK ks6 = out.foldl insK [],
          ⟨_, rfl, Nat.zero_le _, F5, ks, Bn, r1, R'.leave R5, Same.refl F5, R5.fr L _ nb hD, R5.dj L nL' nF, hkl, hrun1, hout⟩, ?_⟩
        rintro j m H6 ⟨rfl, hj, F6, ks6, B6, rest6, A6, e56, hD6, nF6, hk6, hrun6, hout6⟩
        by_cases hjl : j < ds1.length
        · refine .inr ⟨w5.goes j H6 hjl (e56.trans A6.sub), fun H7 => ∃ (F7 : Hp) (ks7 : List Int) (B7 : Bag) (rest7 : List Int), Rel g.T.K c ρ B7 σ H7 F7 ∧ Same F5 F7 ∧ H7 L = some (.dK (keysV ks7)) ∧ F7 L = none ∧ ks7.length ≤ i * 1000 + (j + 1) ∧
            LcRun (LcTurn (blkG g scope) tg1 kx ifs1 ρ1 vs1) (ds1.drop (j + 1)) B7 (rest7.map .int) Bb ∧ (rest7 ++ r2).foldl insK ks7 = out.foldl insK [], fun H7 h7 => ⟨ds1.length - (j + 1), by omega, rfl, hjl, h7⟩, fun v1 H7 y1 => ?_⟩
          have nL6 : H6 L ≠ none := by rw [hD6]; exact fun z => nomatch z
          have Bl : Rel g.T.K ⟨c.β, H6, F6⟩ ρ1 B6 (wipe σ3 vs1) H6 F6 :=
            ⟨hsh.1, fun b o _ h => h, Same.refl F6, fun b _ h => h, A6.sub, fun a h => ⟨(A6.bag a h).1, (by show H6 a ≠ none; rw [(A6.bag a h).1]; exact fun z => nomatch z), A6.F_bag h⟩,
              fun i x h => let ⟨v, g1, g2⟩ := hsh.2 i x h; ⟨v, g1, g2.mono e56⟩, fun i ct h => absurd h (nb1 i ct), fun i j ct ct' p h => absurd h (nb1 i ct)⟩
          obtain ⟨d1, F7, hd1, R7, e7, hrep1⟩ := walk_step (c := ⟨c.β, H6, F6⟩) w5 Bl e56 hjl y1
          have hdrop1 : ds1.drop j = d1 :: ds1.drop (j + 1) := by
            obtain ⟨hl, he⟩ := List.getElem?_eq_some_iff.mp hd1
            rw [List.drop_eq_getElem_cons hl, he]
          rw [hdrop1] at hrun6
          generalize hrm6 : rest6.map D.int = rm6 at hrun6
          cases hrun6 with
          | @keep _ yy _ out6 _ B8 _ hS6 hrest6 =>
            cases rest6 with
            | nil => cases hrm6
            | cons k rest6 =>
              injection hrm6 with hk hrm6
              subst hk hrm6
              obtain ⟨ρ'', js1, b1, Bm1, ht1, hjs1, htt1, hbt1, hel1⟩ := hS6
              subst hbt1
              refine ⟨ρ1, d1, ρ'', js1, ht1, _, B6, F7, R7, hrep1, fun σ8 R8 hw8 => ⟨(hw8 _ hjs1).trans wipe_wipe, ρ'', B6, true, Bm1, htt1, _, F7, R8, fun H9 F9 R9 e9 => iteT ⟨ρ'', Bm1, .int k, B8, hel1, _, F9, R9, fun u Hx Fx Rx ex hu _ => ?_⟩⟩⟩
              cases hu
              have hDx : Hx L = some (.dK (keysV ks6)) := Rx.fr L _ nb hD6
              have nFx : Fx L = none := Rx.dj L nL6 nF6
              refine ⟨keysV ks6, Sum.inl k, rfl, hDx, by rw [keysL]; omega, ?_⟩
              rw [putK_keys]
              exact ⟨Fx, insK ks6 k, B8, rest6, (A6.leave Rx).wr n0 nFx hap, e56.trans ((e7.trans e9).trans ex), upd_same, nFx, by have := insK_len ks6 k; omega, hrest6, hout6⟩
          | @drop _ _ _ _ B8 _ hS6 hrest6 =>
            subst hrm6
            obtain ⟨ρ'', js1, b1, Bm1, ht1, hjs1, htt1, hbt1, hel1⟩ := hS6
            subst hbt1 hel1
            refine ⟨ρ1, d1, ρ'', js1, ht1, _, B6, F7, R7, hrep1, fun σ8 R8 hw8 => ⟨(hw8 _ hjs1).trans wipe_wipe, ρ'', B6, false, B8, htt1, _, F7, R8, fun H9 F9 R9 e9 => iteF ?_⟩⟩
            exact ⟨F9, ks6, B8, rest6, A6.leave R9, e56.trans (e7.trans e9), R9.fr L _ nb hD6, R9.dj L nL6 nF6, by omega, hrest6, hout6⟩
        · have hje : j = ds1.length := by omega
          subst hje
          rw [List.drop_length] at hrun6
          generalize hrm6 : rest6.map D.int = rm6 at hrun6
          cases hrun6
          rw [List.map_eq_nil_iff.mp hrm6, List.nil_append] at hout6
          exact .inl ⟨w5.stops H6 (e56.trans A6.sub), F6, ks6, _, r2, A6, e'.trans (e05.trans e56), hD6, nF6, by omega, hrest, hout6⟩
  · have hie : i = ds.length := by omega
    subst hie
    rw [List.drop_length] at hrun
    generalize hrm : rest.map D.int = rm at hrun
    cases hrun
    rw [List.map_eq_nil_iff.mp hrm] at hout
    have hout' : ks = out.foldl insK [] := hout
    rw [← hout'] at q
    exact .inl ⟨w.stops H' (e'.trans R'.sub), q (.ref L) H' F' R' (e1.trans e') ⟨L, rfl, ⟨_, hD, ct_keys (by omega)⟩, n0, nF⟩ fun _ _ i ct p h1 h2 z => hap i ct p h1 h2 (V.ref.inj z).symm⟩
/-- name = {k: True for .. for ..}, the name a local, as data -/
theorem ex_setDc2 {out : List Int} {j : Nat} {pv py spos : Pos} {vs1 : List Nat} {i : Nat} {E : En} (s : St1 g i n) (hy : g.sc.names.lookup n = some .local) (hi : ItD g tg iter ρ B ds B1) (ok : blkC g.N g.sc scope own = true) (hρ : noOwn (fgt ρ (own.map (·.2))) = ρb) (hvs : ∀ i ∈ vs1, i ∈ own.map (·.2))
    (run : L2Run (L2Turn (blkG g scope) tg tg1 iter1 kx ifs ifs1 ρb (own.map (·.2)) vs1) ds B1 (out.map .int) B2) (hlen : ds.length ≤ 1000) (h : E.nx (ρ.set i (.d (.dct (keysD (out.foldl insK []))))) B2)
    (hl : (py.line == pos.line) = true := by rfl) (ha : (scope.names.any fun (m, k) => m == n && (k == .local || k == .cell)) = false := by decide +kernel)
    (hf : ∀ (env : Env) x, foldedSetIterable iter env x = pure x := by intro _ _; rfl) (hf1 : ∀ (env : Env) x, foldedSetIterable iter1 env x = pure x := by intro _ _; rfl) :
    Ex g (.Assign [.Name n py] (.DictComp kx (.Constant (.bool true) j pv) [⟨tg, iter, ifs, 0⟩, ⟨tg1, iter1, ifs1, 0⟩] scope pos) spos) ρ B E := by
  refine ⟨fun X hX => ?_⟩
  obtain ⟨wi, pi, qi⟩ := hi.h X hX
  have okX : BlkOk X.N X.env.scope scope own := by rw [hX.hN, hX.hs]; exact blkOk_by ok
  have ndX : X.N.Nodup := by rw [hX.hN]; exact hX.nd
  have lx : X.env.scope.names.lookup n = some .local := by rw [hX.hs]; exact hy
  refine ⟨fun pins st σ H Dn I ⟨c, F, R, q1, _⟩ => ?_⟩
  have ky : X.env.kindOf n = some .local := lx
  have hbk : X.env.blockKind = .function := by unfold Env.blockKind; rw [I.ok.kind]; rfl
  have hsw : swapsWith (dc2 kx (.Constant (.bool true) j pv) tg iter tg1 iter1 ifs ifs1 scope pos) (some (.Name n py)) spos.line X.env = pure true := by
    unfold swapsWith
    simp only [hbk, ky, ha, Expr.pos, hl]
    rfl
  rw [exec_Assign_Name_used _ _ _ _ hsw]
  refine wpAny_bind (wpAny_standAt (wpAny_bind ?_))
  show wpAny _ X.A (do let _ ← comprehension (dc2 kx (.Constant (.bool true) j pv) tg iter tg1 iter1 ifs ifs1 scope pos) scope X.env (firstIterPos [⟨tg, iter, ifs, 0⟩, ⟨tg1, iter1, ifs1, 0⟩] pos) newDict false (eval iter X.env) (some (assign (.Name n py) X.env))) _ _ st
  have rd : tDc2 wi (rdG (blkG g scope) tg) (rdT (blkG g scope) ifs) (rdI (blkG g scope) tg1 iter1) (rdG (blkG g scope) tg1) (rdT (blkG g scope) ifs1) (rdE (blkG g scope) kx) tTrue (own.map (·.2)) vs1 σ H (fun x H1 => Dn.nx (σ.set i (some x)) H1) := by
    refine dc2_read hρ hvs qi run hlen ⟨c, F, R, fun v H' F' R' e' ok ap => ?_⟩
    obtain ⟨p, hv, ⟨ho, h1, h2⟩, n0, nF⟩ := ok
    subst hv
    obtain ⟨R2, e2⟩ := R'.freeze h1 n0 nF fun j ct' hj hs => ap _ rfl j ct' p hj hs rfl
    exact q1 _ B2 _ H' _ (R2.set (r := .d (.dct _)) ((h2.mono e2).rep upd_same) apart_d i) (e'.trans e2) h
  refine wpAny_bind (thn (dc2_core (Qf := fun _ s' => SP X pins Dn .next s') hX.calm ndX I pi okX hvs (fun s H C cl fp => ⟨rdG_ok (hX.blk scope s H C cl fp), rdT_ok (hX.blk scope s H C cl fp), rdI_ok (hX.blk scope s H C cl fp), rdG_ok (hX.blk scope s H C cl fp), rdT_ok (hX.blk scope s H C cl fp), rdE_ok (hX.blk scope s H C cl fp), pe_bl⟩) (hf X.env) hf1 rd fun L C s' m H' I' q hn f => ?_) fun _ s' hq => wpAny_pure (wpAny_pure hq))
  show wpAny _ _ (assign (.Name n py) X.env (.ref L)) _ _ _
  refine wpAny_assign_Name (store_ok2 (v := V.ref L) I' ndX (by rw [hX.hN]; exact s.ix) (.inl lx) rfl (fun s2 I2 ⟨a, sb, ha⟩ => ?_) (.inr lx))
  obtain ⟨f0, f1, f2, f3, f4, f5⟩ := f
  have haC : C ≠ a := ha.elim (fun z => by rw [z]; exact f1) fun z e => f4 n a z e.symm
  exact ⟨m, hn.sameBut sb haC, fun h3 sb3 => ⟨_, H', I2.turned (t' := s2.toks) (fun b o hb e => (sb3.2 b hb).trans e) f0 f1 f3 f4 f5, q⟩⟩
/-- sorted(d) of a dict of marks -/
theorem k_sortK {ks : List Int} (h64 : ks.length < 64) : CallD g (.builtin "sorted") [.dct (keysD ks)] (.o (.l ((sortL ks).map .int))) := fun X hX => ⟨_, call_sortedDI hX.calm, fun c ρ B σ H F vs Q R hvs q => by
  obtain ⟨v, rfl, h1⟩ := all1 hvs
  obtain ⟨a, rfl, h2, h3⟩ := rep_keys_inv h1
  refine ⟨a, keysV ks, ks, rfl, .inl (R.sub _ _ h2), by unfold keysV; rw [List.map_map]; rfl, h64, fun ys p hp hs np => ?_⟩
  cases sortL_eq hp hs
  exact q _ _ F (R.newO np) (Same.refl F) ⟨p, rfl, OwnAt.new' R np ⟨_, rfl, by rw [List.length_map, hp.length_eq, sizeLine_eq]; omega, RepAll.ofInts _⟩⟩ (R.apart np)⟩
end
end PD
namespace PD
open PySem PySem.Spec PyProof.Rows L2 RZ

/-! ### the script's slice -/
section
variable {g : G} {ρ ρb : Rho} {B B1 B2 B3 : Bag} {a b e tg iter elt : Expr} {pos p kpos : Pos} {x y z d : D} {es elts ifs : List Expr} {ds : List D} {n : Str}
theorem evr_slS {ns : List Int} {m : Nat} {hi : Expr} {p2 : Pos} (ha : Ev g a ρ B (.scr ns) B1) (hh : Ev g hi ρ B1 (nD m) B2) (hl : ns.length ≤ 1000) : EvR g (.Subscript a (.Slice none (some hi) none p2) pos) ρ B (.o (.l ((ns.take m).map .int))) B2 := by
  refine ⟨fun X hX => ?_⟩
  obtain ⟨tu, pu, qu⟩ := (po_so hh).h X hX
  refine PE.imp (pe_slice sl_list (ha.h X hX) po_none pu) fun σ H Q ⟨c, F, R, q⟩ => ⟨c, F, R, fun v H1 F1 R1 e1 h1 _ => qu c σ H1 F1 _ R1 fun H2 F2 R2 e2 => ?_⟩
  have hh : Rep g.T.K c.β F2 (.scr ns) v := Rep.mono e2 h1
  clear h1
  cases hh with
  | scr h1 =>
    refine ⟨_, _, rfl, by rw [hX.hK]; exact R2.sub.seq h1, fun p np => ?_⟩
    have ecut : cutV (ns.map V.int) none (some ((m : Nat) : Int)) = (ns.take m).map V.int := by
      unfold cutV
      rw [HT.sIx_none, HT.sIx_nat, List.drop_zero, Nat.sub_zero, ← List.map_take, List.length_map]
      congr 1
      rw [List.take_eq_take_iff]
      omega
    rw [ecut]
    exact q _ _ F2 (R2.newO np) (e1.trans e2) ⟨p, rfl, OwnAt.new' R2 np ⟨_, rfl, by rw [List.length_map, List.length_take, sizeLine_eq]; omega, RepAll.ofInts _⟩⟩ (R2.apart np)
end
/-! ### the law's bags -/
def Bag0 (b : Bag) : Prop := 0 ≤ b.1 ∧ 0 ≤ b.2.1 ∧ b.2.1 < 2305843009213693951 ∧ 0 ≤ b.2.2 ∧ b.2.2 ≤ 10000
/-- a list of new lists, each a bag -/
structure BagsAt (H H' : Hp) (p : Addr) (as : List Addr) : Prop where
  same : Same H H'
  np : H p = none
  at_ : H' p = some (.lst (as.map V.ref))
  len : as.length ≤ 64
  bag : ∀ x ∈ as, H x = none ∧ x ≠ p ∧ ∃ b, H' x = some (bagH b) ∧ Bag0 b
  nd : as.Nodup
def spBags (K : PySem.W.Frag) (m : Int) : Sp := fun vs H Q _ => ∃ (a : Addr) (ns : List Int), vs = [.ref a, .int m] ∧ SqL K H a (ns.map V.int) ∧ ns.length ≤ 63 ∧ ∀ H' p as, BagsAt H H' p as → Q (.ref p) H'
/-- a well's promise: a new list -/
def C_well : Con := fun ds B r B' => ∃ (cell t : Int), ds = [.int cell, .int t] ∧ ∃ x y z, r = .o (.l [.int x, .int y, .int z]) ∧ (x = if cell ≥ 10 ^ 18 then cell - 10 ^ 18 else 0) ∧ y = cell % 2305843009213693951 ∧ z = t ∧ B' = B
theorem bags_ok {T : Top} {k : Nat} {f : Addr} {fd : FuncData} {st : Stmt} {m : Int} {n0 : Nat} {pz pq pr pc pe pn1 pn2 pk pm pc2 pb1 pt pn3 pn4 p6 p7 p8 p9 pa pb2 : Pos} {j1 j2 k1 : Nat} {scope : Scope}
    (F : Fun T.K "_law_bags" "_law_bags" st f fd) (S : FnScope ["script", "most", "k", "cell"] ["script", "most"] (defScope st)) (W : HasFn T k "_law_well" C_well) (hen : T.mg "enumerate" = none) (hm : m = (n0 : Nat)) (hn0 : n0 ≤ 10)
    (hbody : defBody st = [.Return (some (.ListComp (.Call (.Name "_law_well" pn1) [.Name "cell" pn2, .BinOp (.Constant (.int 977) j1 pk) .Mult (.Name "k" pm) pc2] [] pb1)
      [⟨.Tuple [.Name "k" p6, .Name "cell" p7] k1 p8, .Call (.Name "enumerate" p9) [.BinOp (.Subscript (.Name "script" pa) (.Slice none (some (.Name "most" pb2)) none pn4) pt) .Add (.List [.Constant (.int 0) j2 pe] pn3) pc] [] pr, [], 0⟩] scope pz)) pq])
    (hg1 : (relS scope (defScope st)).names.lookup ("_law_well" : Str) = some .globalImplicit) (hg2 : (defScope st).names.lookup ("enumerate" : Str) = some .globalImplicit) (v1 : Vis (defScope st) "script") (v2 : Vis (defScope st) "most") (v3 : Vis (relS scope (defScope st)) "cell") (v4 : Vis (relS scope (defScope st)) "k")
    (hc : blkC ["script", "most", "k", "cell"] (defScope st) scope [("k", 2), ("cell", 3)] = true) (s1 : St1 (blkG (fnG T ["script", "most", "k", "cell"] st k) scope) 2 "k") (s2 : St1 (blkG (fnG T ["script", "most", "k", "cell"] st k) scope) 3 "cell") :
    FnOk T.P T.w T.K T.mg T.base CX0 (k + 1) f fd ["script", "most"] (spBags T.K m) := by
  refine F.ok S (fun vs H Q E h => ?_) fun cdv A outer s H vs Q E hr h => ?_
  · obtain ⟨a, ns, rfl, _⟩ := h
    rfl
  obtain ⟨a, ns, rfl, hs, hl, q⟩ := h
  have hX : At (fnG T ["script", "most", "k", "cell"] st k) (cxOf CX0 T.P T.w T.K T.mg T.base ["script", "most", "k", "cell"] "_law_bags" (defScope st) f cdv A outer s H E).nox :=
    ⟨rfl, rfl, rfl, rfl, rfl, rfl, rfl, S.nd, rfl, hr, fun _ _ => rfl, PassesOwn.never⟩
  generalize hXX : (cxOf CX0 T.P T.w T.K T.mg T.base ["script", "most", "k", "cell"] "_law_bags" (defScope st) f cdv A outer s H E).nox = X at hX
  have hz : (sizeLine : Nat) = 16777216 := sizeLine_eq
  -- the source: the cells
  let ρ : Rho := [.d (.scr ns), .d (nD n0), .u, .u]
  have hit : ItD (fnG T ["script", "most", "k", "cell"] st k) (.Tuple [.Name "k" p6, .Name "cell" p7] k1 p8) (.Call (.Name "enumerate" p9) [.BinOp (.Subscript (.Name "script" pa) (.Slice none (some (.Name "most" pb2)) none pn4) pt) .Add (.List [.Constant (.int 0) j2 pe] pn3) pc] [] pr) ρ (0, 0, 0) (enD ((ns.take n0 ++ [0]).map .int)) (0, 0, 0) := by
    refine it_enumL hg2 hen ?_
    rw [List.map_append]
    exact ev_catL ((evr_slS (ev_var (i := 0) rfl v1 rfl) (ev_var (i := 1) rfl v2 rfl) (by omega)).fz) (ev_lst (evs_cons ev_int evs_nil)) (by rw [List.length_map, List.length_take]; simp; omega)
  obtain ⟨wi, pi, qi⟩ := hit.h X hX
  have okX : BlkOk X.N X.env.scope scope [("k", 2), ("cell", 3)] := by rw [hX.hN, hX.hs]; exact blkOk_by hc
  have ndX : X.N.Nodup := by rw [hX.hN]; exact S.nd
  -- the elements
  let rdW : TE := fun σ H Q => ∃ ρ' r, EvR (blkG (fnG T ["script", "most", "k", "cell"] st k) scope) (.Call (.Name "_law_well" pn1) [.Name "cell" pn2, .BinOp (.Constant (.int 977) j1 pk) .Mult (.Name "k" pm) pc2] [] pb1) ρ' (0, 0, 0) r (0, 0, 0) ∧ tEv T.K ρ' (0, 0, 0) r (0, 0, 0) σ H Q
  have pw : ∀ (s : Shared) (H : Hp) (C : Addr) (cl : List (Str × Addr)) (fp : List Addr), PE (X.blk s H scope (compEnvC scope cl C X.env) fp) (.Call (.Name "_law_well" pn1) [.Name "cell" pn2, .BinOp (.Constant (.int 977) j1 pk) .Mult (.Name "k" pm) pc2] [] pb1) rdW := fun s H C cl fp =>
    ⟨fun pins s' σ H' Q I ⟨ρ', r, ht, q⟩ => (ht.h _ (hX.blk scope s H C cl fp)).run pins s' σ H' Q I q⟩
  rw [hbody]
  refine ⟨_, pss_one (ps_ret (pe_lc hX.calm ndX pi okX (fun s H C cl fp => rdG_ok (hX.blk scope s H C cl fp)) (fun s H C cl fp => pts_nil) pw)), ?_⟩
  have R0 : Rel T.K ⟨none, H, H⟩ ρ (0, 0, 0) (L2.start ["script", "most", "k", "cell"] [.ref a, .int m]) H H := by
    refine ⟨rfl, fun b o _ h => h, Same.refl H, fun b h1 h2 => absurd h2 h1, Same.refl H, fun a h => (nomatch h), fun i x h => ?_, fun i ct h => ?_, fun i j ct ct' p h => ?_⟩
    · match i, h with
      | 0, h => cases h; exact ⟨_, rfl, .scr hs⟩
      | 1, h => cases h; exact ⟨_, by rw [hm]; rfl, .int _⟩
      | 2, h => cases h
      | 3, h => cases h
      | i + 4, h => cases h
    · match i, h with
      | 0, h => cases h
      | 1, h => cases h
      | 2, h => cases h
      | 3, h => cases h
      | i + 4, h => cases h
    · match i, h with
      | 0, h => cases h
      | 1, h => cases h
      | 2, h => cases h
      | 3, h => cases h
      | i + 4, h => cases h
  have hK : X.K = T.K := hX.hK
  refine qi ⟨none, H, H⟩ _ H H _ R0 fun J1 H1 F1 R1 e1 w => ?_
  intro L nL
  have hcells : (ns.take n0 ++ [0]).length ≤ 11 := by rw [List.length_append, List.length_take]; simp; omega
  have hlen : (enD ((ns.take n0 ++ [0]).map D.int)).length = (ns.take n0 ++ [0]).length := by rw [enD_length, List.length_map]
  refine ⟨fun i mm H' => mm = (ns.take n0 ++ [0]).length - i ∧ i ≤ (ns.take n0 ++ [0]).length ∧ ∃ (F' : Hp) (as : List Addr), Rel T.K ⟨none, H, H⟩ ρ (0, 0, 0) (L2.start ["script", "most", "k", "cell"] [.ref a, .int m]) H' F' ∧ Same F1 F' ∧ H' L = some (.lst (as.map V.ref)) ∧ F' L = none ∧ as.length = i ∧
      (∀ x ∈ as, H x = none ∧ x ≠ L ∧ F' x = none ∧ ∃ b, H' x = some (bagH b) ∧ Bag0 b) ∧ as.Nodup, ⟨_, rfl, Nat.zero_le _, F1, [], R1.newO nL, Same.refl F1, upd_same, R1.F_none nL, rfl, fun x h => (by cases h), List.nodup_nil⟩, ?_⟩
  rintro i mm H' ⟨rfl, hle, F', as, R', e', hD, nF, hal, hbags, hnd⟩
  have hHL : H L = none := R1.H0_none nL
  by_cases hlt : i < (ns.take n0 ++ [0]).length
  · refine .inr ⟨w.goes i H' (by rw [hlen]; exact hlt) (e'.trans R'.sub), fun H2 => ∃ (F2 : Hp) (as : List Addr), Rel T.K ⟨none, H, H⟩ ρ (0, 0, 0) (L2.start ["script", "most", "k", "cell"] [.ref a, .int m]) H2 F2 ∧ Same F1 F2 ∧ H2 L = some (.lst (as.map V.ref)) ∧ F2 L = none ∧ as.length = i + 1 ∧
      (∀ x ∈ as, H x = none ∧ x ≠ L ∧ F2 x = none ∧ ∃ b, H2 x = some (bagH b) ∧ Bag0 b) ∧ as.Nodup, fun H2 h2 => ⟨_, by omega, rfl, hlt, h2⟩, fun v H2 y => ?_⟩
    have Rb : Rel T.K ⟨none, H', F'⟩ (noOwn (fgt ρ [2, 3])) (0, 0, 0) (wipe (L2.start ["script", "most", "k", "cell"] [.ref a, .int m]) [2, 3]) H' F' := (R'.fgt [2, 3]).enter
    obtain ⟨d, F2, hd, R2, e2, hrep⟩ := walk_step (c := ⟨none, H', F'⟩) w Rb e' (by rw [hlen]; exact hlt) y
    have hx0 : ∃ cell, (ns.take n0 ++ [0])[i]? = some cell := ⟨_, List.getElem?_eq_getElem hlt⟩
    obtain ⟨cell, hcell⟩ := hx0
    have hd' : d = .tup [.int (i : Nat), .int cell] := by
      have := enD_get (xs := (ns.take n0 ++ [0]).map D.int) (i := i) (x := .int cell) (by rw [List.getElem?_map, hcell]; rfl)
      rw [hd] at this
      exact Option.some.inj this
    subst hd'
    have tg : Tg (blkG (fnG T ["script", "most", "k", "cell"] st k) scope) (.Tuple [.Name "k" p6, .Name "cell" p7] k1 p8) (noOwn (fgt ρ [2, 3])) (.tup [.int (i : Nat), .int cell]) [.d (.scr ns), .d (nD n0), .d (.int (i : Nat)), .d (.int cell)] [2, 3] :=
      tg_tup (tgs_cons (tg_name s1) (tgs_cons (tg_name s2) tgs_nil))
    refine ⟨_, _, _, _, tg, ⟨none, H', F'⟩, _, F2, R2, hrep, fun σ3 R3 hw => ⟨(hw [2, 3] fun _ h => h).trans wipe_wipe, ?_⟩⟩
    show rdW σ3 H2 _
    let bg : Bag := ((if cell ≥ 10 ^ 18 then cell - 10 ^ 18 else 0), cell % 2305843009213693951, 977 * (i : Nat))
    have hb0 : Bag0 bg := by
      refine ⟨?_, Int.emod_nonneg _ (by decide), Int.emod_lt_of_pos _ (by decide), ?_, ?_⟩
      · show (0 : Int) ≤ if cell ≥ 10 ^ 18 then cell - 10 ^ 18 else 0
        split <;> omega
      · show (0 : Int) ≤ 977 * ((i : Nat) : Int)
        omega
      · show 977 * ((i : Nat) : Int) ≤ 10000
        omega
    refine ⟨_, .o (.l [.int bg.1, .int bg.2.1, .int bg.2.2]), ev_call (g := blkG (fnG T ["script", "most", "k", "cell"] st k) scope) W (Nat.le_refl _) hg1 (evs_cons (ev_var (i := 3) rfl v3 rfl) (evs_cons (ev_bin (b_mul (.inl ⟨by decide, by decide⟩)) ev_int (ev_var (i := 2) rfl v4 rfl)) evs_nil)) ⟨cell, _, rfl, _, _, _, rfl, rfl, rfl, rfl, rfl⟩,
      ⟨none, H', F'⟩, F2, R3, fun u H5 F5 R5 e5 hu _ => ?_⟩
    obtain ⟨q0, rfl, ⟨ho, g1, g2⟩, g3, g4⟩ := hu
    obtain ⟨vs, rfl, _, g2⟩ := g2
    have hvs : (.lst vs : HO) = bagH bg := by
      have := RepAll.ints (ns := [bg.1, bg.2.1, bg.2.2]) g2
      rw [this]
      rfl
    rw [hvs] at g1
    have g3' : H' q0 = none := g3
    have hD5 : H5 L = some (.lst (as.map V.ref)) := R5.fr L _ (fun z => (nomatch z)) hD
    have nF5 : F5 L = none := R5.dj L (by show H' L ≠ none; rw [hD]; exact fun z => nomatch z) nF
    have hqL : q0 ≠ L := fun z => by rw [z, hD] at g3'; cases g3'
    have hqa : q0 ∉ as := fun z => by
      obtain ⟨_, _, _, b, hb, _⟩ := hbags q0 z
      rw [hb] at g3'
      cases g3'
    have hqH : H q0 = none := by
      cases qq : H q0 with
      | none => rfl
      | some o => rw [R'.fr q0 o (fun z => nomatch z) qq] at g3'; cases g3'
    refine ⟨as.map V.ref, hD5, by rw [List.length_map]; omega, ?_⟩
    have RL := R'.leave R5
    refine ⟨F5, as ++ [q0], RL.wr hHL nF5 (fun i ct q h => ?_), e'.trans (e2.trans e5), by rw [upd_same, List.map_append]; rfl, nF5, by rw [List.length_append]; simp; omega, fun x hx => ?_, ?_⟩
    · exfalso
      match i, h with
      | 0, h => cases h
      | 1, h => cases h
      | 2, h => cases h
      | 3, h => cases h
      | i + 4, h => cases h
    · rcases List.mem_append.mp hx with hx | hx
      · obtain ⟨k1, k2, k3, b, k4, k5⟩ := hbags x hx
        exact ⟨k1, k2, R5.dj x (by show H' x ≠ none; rw [k4]; exact fun z => nomatch z) k3, b, by rw [upd_ne k2]; exact R5.fr x _ (fun z => nomatch z) k4, k5⟩
      · rw [List.mem_singleton.mp hx]
        exact ⟨hqH, hqL, g4, bg, by rw [upd_ne hqL]; exact g1, hb0⟩
    · exact List.nodup_append.mpr ⟨hnd, List.nodup_cons.mpr ⟨List.not_mem_nil, List.nodup_nil⟩, fun x hx y hy z => hqa (by rw [← List.mem_singleton.mp hy, ← z]; exact hx)⟩
  · have hie : i = (enD ((ns.take n0 ++ [0]).map D.int)).length := by rw [hlen]; omega
    refine .inl ⟨by rw [hie]; exact w.stops H' (e'.trans R'.sub), q H' L as ⟨fun b o h => R'.fr b o (fun z => nomatch z) h, hHL, hD, by omega, fun x hx => ?_, hnd⟩⟩
    obtain ⟨k1, k2, k3, b, k4, k5⟩ := hbags x hx
    exact ⟨k1, k2, b, k4, k5⟩

/-! ### the law: a loop over the bags, then the rest -/
def spLaw (K : PySem.W.Frag) : Sp := fun vs H Q _ => ∃ (a : Addr) (ns : List Int), vs = [.ref a] ∧ SqL K H a (ns.map V.int) ∧ ns.length ≤ 63 ∧ ∀ H', Q (.bl true) H'
def rhoU (N : List Str) : Rho := List.replicate N.length .u
theorem rhoU_get {N : List Str} {i : Nat} {s : Sl} (h : (rhoU N)[i]? = some s) : s = .u := by
  unfold rhoU at h
  rw [List.getElem?_replicate] at h
  split at h
  · exact (Option.some.inj h).symm
  · cases h
/-- a turn's end: all is well, the slots are as many as ever -/
def bagE (N : List Str) : En := { nx := fun ρ _ => ρ.length = N.length, rt := fun _ _ => False, bk := fun _ _ => False, ct := fun ρ _ => ρ.length = N.length }
def lawE : En := { nx := fun _ _ => False, rt := fun r _ => r = .d (.bl true) }
theorem law_ok {T : Top} {k jb ib : Nat} {f fb : Addr} {fd fdb : FuncData} {st : Stmt} {N : List Str} {m : Int} {body rest : List Stmt} {p1 p2 p3 p4 p5 p6 : Pos} {j : Nat}
    (F : Fun T.K "law" "law" st f fd) (S : FnScope N ["script"] (defScope st)) (HB : FnOk T.P T.w T.K T.mg T.base CX0 jb fb fdb ["script", "most"] (spBags T.K m)) (kb : PySem.W.keepIn T.K (.ref fb) = true) (bb : Binds T.K fdb ["script", "most"] [])
    (mgb : T.mg "_law_bags" = some (.ref fb)) (hj : jb ≤ k) (hbody : defBody st = .For (.Name "bag" p1) (.Call (.Name "_law_bags" p2) [.Name "script" p3, .Constant (.int m) j p4] [] p5) body [] p6 :: rest)
    (v : Vis (defScope st) "script") (hg : (defScope st).names.lookup ("_law_bags" : Str) = some .globalImplicit) (s : St1 (fnG T N st k) ib "bag") (hN0 : N[0]? = some ("script" : Str))
    (hb : ∀ b, Bag0 b → Exs (fnG T N st k) body ((rhoU N).set ib (.d .bag)) b (bagE N)) (hrest : Exs (fnG T N st k) rest (rhoU N) (0, 0, 0) lawE) : FnOk T.P T.w T.K T.mg T.base CX0 (k + 1) f fd ["script"] (spLaw T.K) := by
  refine F.ok S (fun vs H Q E h => ?_) fun cdv A outer s0 H vs Q E hr h => ?_
  · obtain ⟨a, ns, rfl, _⟩ := h
    rfl
  obtain ⟨a, ns, rfl, hs, hl, q⟩ := h
  have hX : At (fnG T N st k) (cxOf CX0 T.P T.w T.K T.mg T.base N "law" (defScope st) f cdv A outer s0 H E).nox :=
    ⟨rfl, rfl, rfl, rfl, rfl, rfl, rfl, S.nd, rfl, hr, fun _ _ => rfl, PassesOwn.never⟩
  have hXN : (cxOf CX0 T.P T.w T.K T.mg T.base N "law" (defScope st) f cdv A outer s0 H E).nox.N = N := rfl
  have HB' : FnOk T.P T.w T.K T.mg T.base CX0 k fb fdb ["script", "most"] (spBags T.K m) := HB.mono hj
  have pb : PSs (cxOf CX0 T.P T.w T.K T.mg T.base N "law" (defScope st) f cdv A outer s0 H E).nox body (fun D σ H => ∃ b, Bag0 b ∧ tEx T.K ((rhoU N).set ib (.d .bag)) b (bagE N) D σ H) := ⟨fun pins s σ H D I ⟨b, h0, h1⟩ => ((hb b h0).h _ hX).run pins s σ H D I h1⟩
  rw [hbody]
  have hib : ib < N.length := (List.getElem?_eq_some_iff.mp s.ix).1
  refine ⟨_, pss_cons (ps_for PassesOwn.never rfl (pi_list (pe_call (x := "_law_bags") HB' hr hg mgb kb bb .nil pass0 (pa_cons (pe_var (i := 0) hN0 v) (pa_cons pe_int pa_nil)))) (pg_name (i := ib) S.nd s.ix s.loc (.inl rfl)) pb) (hrest.h _ hX), ?_⟩
  refine ⟨.ref a, by (have hN : 0 < N.length := (List.getElem?_eq_some_iff.mp hN0).1; show (L2.start N [.ref a])[0]? = _; rfl), a, ns, rfl, hs, hl, fun H1 p as BA => ?_⟩
  refine ⟨p, rfl, ⟨_, SqL.of BA.at_⟩, ?_⟩
  refine for_list (K := T.K) (a := p) (xs := as.map V.ref) (g := gName ib) (tb := fun D σ H => ∃ b, Bag0 b ∧ tEx T.K ((rhoU N).set ib (.d .bag)) b (bagE N) D σ H) (D := { nx := tEx T.K (rhoU N) (0, 0, 0) lawE { nx := fun _ H' => Q .non H', rt := Q }, rt := Q }) (fun i σ H' => σ.length = N.length ∧ H' p = some (.lst (as.map V.ref)) ∧ ∀ j x, i ≤ j → as[j]? = some x → ∃ b, H' x = some (bagH b) ∧ Bag0 b) ⟨?_, BA.at_, fun j x _ hx => (BA.bag x (List.mem_of_getElem? hx)).2.2⟩ (fun i σ H' _ hP => SqL.of hP.2.1) (fun i x σ H' hx hP => ?_) fun σ H' hP => ?_
  · unfold L2.start
    have hN : 0 < N.length := (List.getElem?_eq_some_iff.mp hN0).1
    rw [List.length_append, List.length_map, List.length_replicate]
    simp
    omega
  · obtain ⟨hlen, hp, hrem⟩ := hP
    rw [List.getElem?_map] at hx
    obtain ⟨ai, hai, rfl⟩ := Option.map_eq_some_iff.mp hx
    obtain ⟨b, hb1, hb2⟩ := hrem i ai (Nat.le_refl _) hai
    have hpne : p ≠ ai := fun z => (BA.bag ai (List.mem_of_getElem? hai)).2.1 z.symm
    have ndx : ∀ j x, i + 1 ≤ j → as[j]? = some x → x ≠ ai := fun j x hj hx2 z => by
      rw [z] at hx2
      have := nd_ix BA.nd hx2 hai
      omega
    refine ⟨b, hb2, ⟨some ai, H', fun z => if z = ai then none else H' z⟩, fun z => if z = ai then none else H' z, ⟨?_, fun b o _ h => h, Same.refl _, fun b h1 h2 => h2, fun z o h => ?_, fun a' ha' => ?_, fun i' d hd => ?_, fun i' ct hd => ?_, fun i' j' ct ct' q hd => ?_⟩, ?_, ?_, ?_, ?_⟩
    · rw [List.length_set, List.length_set]
      unfold rhoU
      rw [List.length_replicate, hlen]
    · have h : (if z = ai then none else H' z) = some o := h
      split at h
      · cases h
      · exact h
    · cases ha'
      exact ⟨hb1, (by show H' ai ≠ none; rw [hb1]; exact fun z => nomatch z), if_pos rfl⟩
    · by_cases hi' : ib = i'
      · subst hi'
        rw [List.getElem?_set_self (by unfold rhoU; rw [List.length_replicate]; exact hib)] at hd
        cases hd
        exact ⟨.ref ai, List.getElem?_set_self (by rw [hlen]; exact hib), .bag rfl⟩
      · rw [List.getElem?_set_ne hi'] at hd
        exact nomatch rhoU_get hd
    · by_cases hi' : ib = i'
      · subst hi'
        rw [List.getElem?_set_self (by unfold rhoU; rw [List.length_replicate]; exact hib)] at hd
        cases hd
      · rw [List.getElem?_set_ne hi'] at hd
        exact nomatch rhoU_get hd
    · by_cases hi' : ib = i'
      · subst hi'
        rw [List.getElem?_set_self (by unfold rhoU; rw [List.length_replicate]; exact hib)] at hd
        cases hd
      · rw [List.getElem?_set_ne hi'] at hd
        exact nomatch rhoU_get hd
    · exact fun ρ' B' σ' H2 F2 R2 _ hn => ⟨R2.len.symm.trans hn, R2.fr p _ (fun z => hpne (Option.some.inj z)) hp, fun j x hj hx => let ⟨b', g1, g2⟩ := hrem j x (by omega) hx; ⟨b', R2.fr x _ (fun z => ndx j x hj hx (Option.some.inj z)) g1, g2⟩⟩
    · exact fun _ _ _ _ _ _ _ _ _ _ z => z.elim
    · exact fun _ _ _ _ _ _ _ z => z.elim
    · exact fun ρ' B' σ' H2 F2 R2 _ hn => ⟨R2.len.symm.trans hn, R2.fr p _ (fun z => hpne (Option.some.inj z)) hp, fun j x hj hx => let ⟨b', g1, g2⟩ := hrem j x (by omega) hx; ⟨b', R2.fr x _ (fun z => ndx j x hj hx (Option.some.inj z)) g1, g2⟩⟩
  · refine ⟨⟨none, H', H'⟩, H', ⟨?_, fun b o _ h => h, Same.refl _, fun b h1 h2 => absurd h2 h1, Same.refl _, fun a h => (nomatch h), fun i d hd => (nomatch rhoU_get hd), fun i ct hd => (nomatch rhoU_get hd), fun i j ct ct' q hd => (nomatch rhoU_get hd)⟩, fun _ _ _ _ _ _ _ z => z.elim, fun ρ' B' σ' H2 F2 r v R2 _ ok hr => ?_, fun _ _ _ _ _ _ _ z => z.elim, fun _ _ _ _ _ _ _ z => z.elim⟩
    · unfold rhoU
      rw [List.length_replicate, hP.1]
    · subst hr
      cases ok
      exact q H2
end PD
namespace PD
open PySem PySem.Spec PyProof.Rows L2 RZ

/-- the built-ins that a text uses are no names of its own -/
structure Bl (T : Top) : Prop where
  len : T.mg "len" = none
  all : T.mg "all" = none
  any : T.mg "any" = none
  sum : T.mg "sum" = none
  max : T.mg "max" = none
  min : T.mg "min" = none
  sorted : T.mg "sorted" = none
  range : T.mg "range" = none
  zip : T.mg "zip" = none
  enumerate : T.mg "enumerate" = none
  list : T.mg "list" = none
  tuple : T.mg "tuple" = none
  isinstance : T.mg "isinstance" = none
  int : T.mg "int" = none
  bool : T.mg "bool" = none
  str : T.mg "str" = none
theorem bt_isinstance : bootBuiltins "isinstance" = some (.builtin "isinstance") := by decide +kernel
theorem bt_all : bootBuiltins "all" = some (.builtin "all") := by decide +kernel
theorem bt_any : bootBuiltins "any" = some (.builtin "any") := by decide +kernel
theorem bt_sum : bootBuiltins "sum" = some (.builtin "sum") := by decide +kernel
theorem bt_max : bootBuiltins "max" = some (.builtin "max") := by decide +kernel
theorem bt_min : bootBuiltins "min" = some (.builtin "min") := by decide +kernel
theorem bt_sorted : bootBuiltins "sorted" = some (.builtin "sorted") := by decide +kernel
theorem bt_len : bootBuiltins "len" = some (.builtin "len") := by decide +kernel
theorem bt_list : bootBuiltins "list" = some (.type "list") := by decide +kernel
theorem bt_tuple : bootBuiltins "tuple" = some (.type "tuple") := by decide +kernel
theorem bt_int : bootBuiltins "int" = some (.type "int") := by decide +kernel
theorem bt_bool : bootBuiltins "bool" = some (.type "bool") := by decide +kernel
theorem bt_str : bootBuiltins "str" = some (.type "str") := by decide +kernel

def D.isInt : D → Bool
  | .int _ => true
  | .bl _ => true
  | _ => false
def D.isBl : D → Bool
  | .bl _ => true
  | _ => false
def D.isTup : D → Bool
  | .tup _ => true
  | _ => false
def D.isLst : D → Bool
  | .lst _ => true
  | .bag => true
  | _ => false
def D.isStr : D → Bool
  | .str _ => true
  | _ => false
section
variable {g : G} {ρ : Rho} {B B1 B2 : Bag} {a b e : Expr} {pos p p2 : Pos} {x y z d : D}
theorem isi_int (h : x.ty.isSome = true) : CallD g (.builtin "isinstance") [x, .val (.ty "int")] (.d (.bl x.isInt)) := by
  cases x with
  | val v => cases h
  | scr v => cases h
  | dtb P w kv => cases h
  | _ => first | exact k_isi (k := true) rfl (by decide +kernel) | exact k_isi (k := false) rfl (by decide +kernel)
theorem isi_bool (h : x.ty.isSome = true) : CallD g (.builtin "isinstance") [x, .val (.ty "bool")] (.d (.bl x.isBl)) := by
  cases x with
  | val v => cases h
  | scr v => cases h
  | dtb P w kv => cases h
  | _ => first | exact k_isi (k := true) rfl (by decide +kernel) | exact k_isi (k := false) rfl (by decide +kernel)
theorem isi_tuple (h : x.ty.isSome = true) : CallD g (.builtin "isinstance") [x, .val (.ty "tuple")] (.d (.bl x.isTup)) := by
  cases x with
  | val v => cases h
  | scr v => cases h
  | dtb P w kv => cases h
  | _ => first | exact k_isi (k := true) rfl (by decide +kernel) | exact k_isi (k := false) rfl (by decide +kernel)
theorem isi_list (h : x.ty.isSome = true) : CallD g (.builtin "isinstance") [x, .val (.ty "list")] (.d (.bl x.isLst)) := by
  cases x with
  | val v => cases h
  | scr v => cases h
  | dtb P w kv => cases h
  | _ => first | exact k_isi (k := true) rfl (by decide +kernel) | exact k_isi (k := false) rfl (by decide +kernel)
theorem isi_str (h : x.ty.isSome = true) : CallD g (.builtin "isinstance") [x, .val (.ty "str")] (.d (.bl x.isStr)) := by
  cases x with
  | val v => cases h
  | scr v => cases h
  | dtb P w kv => cases h
  | _ => first | exact k_isi (k := true) rfl (by decide +kernel) | exact k_isi (k := false) rfl (by decide +kernel)
theorem isi_blt (h : x.ty.isSome = true) : CallD g (.builtin "isinstance") [x, .tup [.val (.ty "bool"), .val (.ty "list"), .val (.ty "tuple")]] (.d (.bl (x.isBl || x.isLst || x.isTup))) := by
  have go : ∀ {T : String} {k : Bool}, x.ty = some T → (∀ K : PySem.W.Frag, PySem.W.kitAny K (.type T) (["bool", "list", "tuple"].map Value.type) = some k) → CallD g (.builtin "isinstance") [x, .tup [.val (.ty "bool"), .val (.ty "list"), .val (.ty "tuple")]] (.d (.bl k)) := fun ht hk => k_isiT (ns := ["bool", "list", "tuple"]) ht hk
  have st : ∀ {T : String} {b1 b2 b3 : Bool}, kitB T "bool" = some b1 → kitB T "list" = some b2 → kitB T "tuple" = some b3 → ∀ K : PySem.W.Frag, PySem.W.kitAny K (.type T) (["bool", "list", "tuple"].map Value.type) = some (b1 || (b2 || b3)) := fun {T b1 b2 b3} h1 h2 h3 K => by
    refine kitAny_cons (kit_ty h1) (fun e => ?_) (fun e => by rw [e]; rfl)
    subst e
    refine kitAny_cons (kit_ty h2) (fun e => ?_) (fun e => by rw [e]; rfl)
    subst e
    refine kitAny_cons (kit_ty h3) (fun e => ?_) (fun e => by rw [e]; rfl)
    subst e
    exact kitAny_nil
  cases x with
  | val v => cases h
  | scr v => cases h
  | dtb P w kv => cases h
  | _ =>
    first
    | exact go rfl (st (b1 := true) (b2 := false) (b3 := false) (by decide +kernel) (by decide +kernel) (by decide +kernel))
    | exact go rfl (st (b1 := false) (b2 := true) (b3 := false) (by decide +kernel) (by decide +kernel) (by decide +kernel))
    | exact go rfl (st (b1 := false) (b2 := false) (b3 := true) (by decide +kernel) (by decide +kernel) (by decide +kernel))
    | exact go rfl (st (b1 := false) (b2 := false) (b3 := false) (by decide +kernel) (by decide +kernel) (by decide +kernel))
/-- isinstance(e, C) -/
theorem ev_isi {n : Str} {T : String} {k : Bool} (bl : Bl g.T) (hi : CallD g (.builtin "isinstance") [x, .val (.ty T)] (.d (.bl k))) (hm : g.T.mg n = none) (hv : bootBuiltins n = some (.type T)) (ha : Ev g a ρ B x B1) (hg : Glb g "isinstance" := by rfl) (hgn : Glb g n := by rfl) (hn : n ≠ "__name__" := by decide) (hd : (n == ("__debug__" : Str)) = false := by decide)
    (he : ∀ env : Env, starEach [a, .Name n p2] env = (false, eval a env) :: starEach [.Name n p2] env := by intro _; rfl) (hpl : ∀ env : Env, (backTo pos (starEach [.Name n p2] env)).any (·.1) = false := by intro _; rfl)
    (he2 : ∀ env : Env, starEach [.Name n p2] env = (false, eval (.Name n p2) env) :: starEach [] env := by intro _; rfl) : Ev g (.Call (.Name "isinstance" p) [a, .Name n p2] [] pos) ρ B (.bl k) B1 :=
  ev_callB hi hg bl.isinstance bt_isinstance (evs_cons ha (evs_cons (ev_bltn hgn hm hv rfl hn hd) evs_nil he2) he) (by decide) (by decide) he hpl
/-- a name, its slot looked up -/
def slotOf (N : List Str) (n : Str) : Nat := N.findIdx (· == n)
theorem ev_nm {n : Str} (hN : g.N[slotOf g.N n]? = some n) (hv : Vis g.sc n) (hr : ρ[slotOf g.N n]? = some (.d d)) (hd : (n == ("__debug__" : Str)) = false := by decide) (hcd : (n == ("__classdict__" : Str)) = false := by decide) : Ev g (.Name n pos) ρ B d B := ev_var hN hv hr hd hcd
/-- plain data: of None, truths, ints, texts, lists, tuples -/
def D.plain (x : D) : Bool := x.py.isSome
theorem D.plain.ty {x : D} (h : x.plain = true) : x.ty.isSome = true := by
  cases x with
  | val v => unfold D.plain D.py at h; cases h
  | scr v => unfold D.plain D.py at h; cases h
  | dtb P w kv => unfold D.plain D.py at h; cases h
  | _ => rfl
theorem pys_mem : ∀ {ds : List D} {ps : List PyData}, D.pys ds = some ps → ∀ d ∈ ds, d.plain = true
  | [], _, _, _, h => by cases h
  | d :: ds, ps, h, e, he => by
    unfold D.pys at h
    split at h
    · rename_i x xs hx hxs
      rcases List.mem_cons.mp he with rfl | he
      · unfold D.plain; rw [hx]; rfl
      · exact pys_mem hxs e he
    · cases h
theorem D.plain.tup {ds : List D} (h : (D.tup ds).plain = true) : ∀ d ∈ ds, d.plain = true := by
  unfold D.plain D.py at h
  rw [Option.isSome_map] at h
  obtain ⟨ps, hp⟩ := Option.isSome_iff_exists.mp h
  exact pys_mem hp
theorem D.plain.lst {ds : List D} (h : (D.lst ds).plain = true) : ∀ d ∈ ds, d.plain = true := by
  unfold D.plain D.py at h
  rw [Option.isSome_map] at h
  obtain ⟨ps, hp⟩ := Option.isSome_iff_exists.mp h
  exact pys_mem hp
theorem pys_of : ∀ {ds : List D}, (∀ d ∈ ds, d.plain = true) → ∃ ps, D.pys ds = some ps
  | [], _ => ⟨[], rfl⟩
  | d :: ds, h => by
    obtain ⟨x, hx⟩ := Option.isSome_iff_exists.mp (h d List.mem_cons_self)
    obtain ⟨xs, hxs⟩ := pys_of fun e he => h e (List.mem_cons_of_mem _ he)
    exact ⟨x :: xs, by unfold D.pys; rw [hx, hxs]⟩
theorem plain_tup {ds : List D} (h : ∀ d ∈ ds, d.plain = true) : (D.tup ds).plain = true := by
  obtain ⟨ps, hp⟩ := pys_of h
  unfold D.plain D.py
  rw [hp]; rfl
theorem plain_lst {ds : List D} (h : ∀ d ∈ ds, d.plain = true) : (D.lst ds).plain = true := by
  obtain ⟨ps, hp⟩ := pys_of h
  unfold D.plain D.py
  rw [hp]; rfl
end
end PD
namespace PD
open PySem PySem.Spec PyProof.Rows L2 RZ
section
variable {g : G} {ρ : Rho} {B B1 B2 : Bag} {a b e : Expr} {pos p p2 : Pos} {x y z d : D} {ds : List D} {sts : List Stmt} {E : En} {es : List Expr} {n : Str}
theorem exs_fgt : ∀ {is : List Nat} {ρ : Rho}, Exs g sts (fgt ρ is) B E → Exs g sts ρ B E
  | [], _, h => h
  | i :: is, ρ, h => exs_fgt (is := is) (exs_u (i := i) h)
theorem pys_ints : ∀ ns : List Int, D.pys (ns.map D.int) = some (ns.map PyData.int)
  | [] => by unfold D.pys; rfl
  | n :: ns => by
    rw [List.map_cons, List.map_cons]
    unfold D.pys
    rw [pys_ints ns]
    unfold D.py
    rfl
theorem py_lst (ns : List Nat) : (D.lst (ns.map nD)).py = some (.list ((ns.map fun n : Nat => (n : Int)).map .int)) := by
  unfold D.py
  rw [map_nD, pys_ints]
  rfl
theorem py_tup (ns : List Nat) : (D.tup (ns.map nD)).py = some (.tuple ((ns.map fun n : Nat => (n : Int)).map .int)) := by
  unfold D.py
  rw [map_nD, pys_ints]
  rfl
theorem depthInts : ∀ ns : List Int, PyData.depthAll (ns.map PyData.int) ≤ 1
  | [] => by decide
  | n :: ns => by
    have := depthInts ns
    rw [List.map_cons]
    unfold PyData.depthAll
    exact Nat.max_le.mpr ⟨by unfold PyData.depth; omega, this⟩
theorem canInts : ∀ ns : List Int, PyData.canLayAll0 (ns.map PyData.int) = true
  | [] => by simp [PyData.canLayAll0]
  | n :: ns => by simp [PyData.canLayAll0, PyData.canLay0, canInts ns]
theorem shaped_list (ns : List Int) : SeqAt.shaped (.list (ns.map .int)) = true := by
  have h := depthInts ns
  unfold SeqAt.shaped PyData.canLay0 PyData.depth
  rw [canInts]
  simp
  omega
theorem shaped_tup (ns : List Int) : SeqAt.shaped (.tuple (ns.map .int)) = true := by
  have h := depthInts ns
  unfold SeqAt.shaped PyData.canLay0 PyData.depth
  rw [canInts]
  simp
  omega
theorem eqvInts : ∀ xs ys : List Int, PyData.eqvAll (xs.map .int) (ys.map .int) = decide (xs = ys)
  | [], [] => by simp [PyData.eqvAll]
  | [], y :: ys => by simp [PyData.eqvAll]
  | x :: xs, [] => by simp [PyData.eqvAll]
  | x :: xs, y :: ys => by
    rw [List.map_cons, List.map_cons]
    unfold PyData.eqvAll
    rw [eqvInts xs ys]
    unfold PyData.eqv
    by_cases h : x = y <;> by_cases h2 : xs = ys <;> simp [h, h2]
theorem cast_inj {xs ys : List Nat} : ((xs.map fun n : Nat => (n : Int)) = ys.map fun n : Nat => (n : Int)) ↔ xs = ys := by
  constructor
  · intro h
    have : ∀ xs ys : List Nat, ((xs.map fun n : Nat => (n : Int)) = ys.map fun n : Nat => (n : Int)) → xs = ys := by
      intro xs
      induction xs with
      | nil => intro ys h; cases ys with
        | nil => rfl
        | cons y ys => cases h
      | cons x xs ih => intro ys h; cases ys with
        | nil => cases h
        | cons y ys =>
          rw [List.map_cons, List.map_cons] at h
          injection h with h1 h2
          rw [ih ys h2]
          rw [show x = y by omega]
    exact this xs ys h
  · intro h; rw [h]
theorem c_eqL {xs ys : List Nat} : BinD g (compareOp .Eq) (.lst (xs.map nD)) (.lst (ys.map nD)) (.d (.bl (decide (xs = ys)))) := by
  have h := c_eqD (g := g) (py_lst xs) (py_lst ys) (shaped_list _) (shaped_list _)
  unfold PyData.eqv at h
  rw [eqvInts, show decide ((xs.map fun n : Nat => (n : Int)) = ys.map fun n : Nat => (n : Int)) = decide (xs = ys) from decide_eq_decide.mpr cast_inj] at h
  exact h
theorem c_neL {xs ys : List Nat} : BinD g (compareOp .NotEq) (.lst (xs.map nD)) (.lst (ys.map nD)) (.d (.bl (!decide (xs = ys)))) := by
  have h := c_neD (g := g) (py_lst xs) (py_lst ys) (shaped_list _) (shaped_list _)
  unfold PyData.eqv at h
  rw [eqvInts, show decide ((xs.map fun n : Nat => (n : Int)) = ys.map fun n : Nat => (n : Int)) = decide (xs = ys) from decide_eq_decide.mpr cast_inj] at h
  exact h
theorem c_eqT {xs ys : List Nat} : BinD g (compareOp .Eq) (.tup (xs.map nD)) (.tup (ys.map nD)) (.d (.bl (decide (xs = ys)))) := by
  have h := c_eqD (g := g) (py_tup xs) (py_tup ys) (shaped_tup _) (shaped_tup _)
  unfold PyData.eqv at h
  rw [eqvInts, show decide ((xs.map fun n : Nat => (n : Int)) = ys.map fun n : Nat => (n : Int)) = decide (xs = ys) from decide_eq_decide.mpr cast_inj] at h
  exact h
theorem c_eqP {i j k l : Int} : BinD g (compareOp .Eq) (.tup [.int i, .int j]) (.tup [.int k, .int l]) (.d (.bl (decide (i = k) && decide (j = l)))) := by
  have h := c_eqD (g := g) (x := .tup [.int i, .int j]) (y := .tup [.int k, .int l]) (px := .tuple ([i, j].map .int)) (py := .tuple ([k, l].map .int)) (by unfold D.py; rw [show ([.int i, .int j] : List D) = [i, j].map .int from rfl, pys_ints]; rfl) (by unfold D.py; rw [show ([.int k, .int l] : List D) = [k, l].map .int from rfl, pys_ints]; rfl) (shaped_tup _) (shaped_tup _)
  unfold PyData.eqv at h
  rw [eqvInts] at h
  have e : decide ([i, j] = [k, l]) = (decide (i = k) && decide (j = l)) := by simp
  rw [e] at h
  exact h
/-- sorted whole numbers of folk -/
def sortN (ns : List Nat) : List Nat := ns.mergeSort (fun a b => decide (a ≤ b))
theorem sortN_perm (ns : List Nat) : (sortN ns).Perm ns := List.mergeSort_perm _ _
theorem sortN_pair (ns : List Nat) : (sortN ns).Pairwise (· ≤ ·) := by
  have h := List.pairwise_mergeSort (le := fun a b : Nat => decide (a ≤ b)) (fun a b c h1 h2 => by simp at *; omega) (fun a b => by simp; omega) ns
  exact h.imp fun h => by simpa using h
theorem sortL_N (ns : List Nat) : (sortL (ns.map fun n : Nat => (n : Int))).map D.int = (sortN ns).map nD := by
  rw [map_nD]
  congr 1
  refine (sortL_eq ((sortN_perm ns).map _) ?_).symm
  rw [List.pairwise_map]
  exact (sortN_pair ns).imp fun h => by omega
theorem k_sortN {ns : List Nat} : CallD g (.builtin "sorted") [.lst (ns.map nD)] (.o (.l ((sortN ns).map nD))) := by
  rw [← sortL_N, map_nD]
  exact k_sortI
/-- a guard that is passed by -/
theorem ex_skip {as : List Stmt} (hc : Ts g e ρ B false B1) (h : E.nx ρ B1) : Ex g (.If e as [] pos) ρ B E := ex_if hc (fun h => nomatch h) fun _ => exs_nil h
theorem ex_then {as bs : List Stmt} (hc : Ts g e ρ B true B1) (h : Exs g as ρ B1 E) : Ex g (.If e as bs pos) ρ B E := ex_if hc (fun _ => h) fun h => nomatch h
theorem ev_andT {rest : List Expr} (ha : Ev g a ρ B (.bl true) B) (hb : Ev g (.BoolOp .And (b :: rest) pos) ρ B (.bl true) B) : Ev g (.BoolOp .And (a :: b :: rest) pos) ρ B (.bl true) B := ev_and (k := true) (k' := true) ha (fun _ => hb) fun h => nomatch h
theorem ev_andP {k k' : Bool} {rest : List Expr} (ha : Ev g a ρ B (.bl k) B) (hb : k = true → Ev g (.BoolOp .And (b :: rest) pos) ρ B (.bl k') B) : Ev g (.BoolOp .And (a :: b :: rest) pos) ρ B (.bl (k && k')) B := ev_and ha hb fun _ => rfl
theorem ev_orP {k k' : Bool} {rest : List Expr} (ha : Ev g a ρ B (.bl k) B) (hb : k = false → Ev g (.BoolOp .Or (b :: rest) pos) ρ B (.bl k') B) : Ev g (.BoolOp .Or (a :: b :: rest) pos) ρ B (.bl (k || k')) B := ev_or ha hb fun _ => rfl
theorem tw_orP {k k' : Bool} {rest : List Expr} (ha : Ts g a ρ B k B) (hb : k = false → Tw g (.BoolOp .Or (b :: rest) pos) ρ B k' B) : Tw g (.BoolOp .Or (a :: b :: rest) pos) ρ B (k || k') B := tw_or ha hb fun _ => rfl
theorem tw_orF {rest : List Expr} (ha : Ts g a ρ B false B) (hb : Tw g (.BoolOp .Or (b :: rest) pos) ρ B false B) : Tw g (.BoolOp .Or (a :: b :: rest) pos) ρ B false B := tw_or (k := false) (k' := false) ha (fun _ => hb) fun h => nomatch h
theorem tw_orP1 {k : Bool} (ha : Ts g a ρ B k B) : Tw g (.BoolOp .Or [a] pos) ρ B k B := tw_or1 ha
theorem tw_andP {k k' : Bool} {rest : List Expr} (ha : Ts g a ρ B k B) (hb : k = true → Tw g (.BoolOp .And (b :: rest) pos) ρ B k' B) : Tw g (.BoolOp .And (a :: b :: rest) pos) ρ B (k && k') B := tw_and ha hb fun _ => rfl
/-! calls of the built-ins, for short -/
theorem ev_len (bl : Bl g.T) (ha : Ev g a ρ B x B1) (hx : x.seq = some ds) (hg : Glb g "len" := by rfl) (he : ∀ env : Env, starEach [a] env = (false, eval a env) :: starEach [] env := by intro _; rfl) (hpl : ∀ env : Env, (backTo pos (starEach [] env)).any (·.1) = false := by intro _; rfl) : Ev g (.Call (.Name "len" p) [a] [] pos) ρ B (nD ds.length) B1 :=
  ev_callB (k_len hx) hg bl.len bt_len (evs_cons ha evs_nil he) (by decide) (by decide) he hpl
theorem ev_all (bl : Bl g.T) {bs : List Bool} (ha : Ev g a ρ B (.lst (bs.map .bl)) B1) (hg : Glb g "all" := by rfl) (he : ∀ env : Env, starEach [a] env = (false, eval a env) :: starEach [] env := by intro _; rfl) (hpl : ∀ env : Env, (backTo pos (starEach [] env)).any (·.1) = false := by intro _; rfl) : Ev g (.Call (.Name "all" p) [a] [] pos) ρ B (.bl (bs.all id)) B1 :=
  ev_callB k_all hg bl.all bt_all (evs_cons ha evs_nil he) (by decide) (by decide) he hpl
theorem ev_any (bl : Bl g.T) {bs : List Bool} (ha : Ev g a ρ B (.lst (bs.map .bl)) B1) (hg : Glb g "any" := by rfl) (he : ∀ env : Env, starEach [a] env = (false, eval a env) :: starEach [] env := by intro _; rfl) (hpl : ∀ env : Env, (backTo pos (starEach [] env)).any (·.1) = false := by intro _; rfl) : Ev g (.Call (.Name "any" p) [a] [] pos) ρ B (.bl (bs.any id)) B1 :=
  ev_callB k_any hg bl.any bt_any (evs_cons ha evs_nil he) (by decide) (by decide) he hpl
theorem ev_sum (bl : Bl g.T) {ns : List Int} (ha : Ev g a ρ B (.lst (ns.map .int)) B1) (hg : Glb g "sum" := by rfl) (he : ∀ env : Env, starEach [a] env = (false, eval a env) :: starEach [] env := by intro _; rfl) (hpl : ∀ env : Env, (backTo pos (starEach [] env)).any (·.1) = false := by intro _; rfl) : Ev g (.Call (.Name "sum" p) [a] [] pos) ρ B (.int ns.sum) B1 :=
  ev_callB k_sum hg bl.sum bt_sum (evs_cons ha evs_nil he) (by decide) (by decide) he hpl
theorem ev_max (bl : Bl g.T) {ns : List Int} (ha : Ev g a ρ B (.lst (ns.map .int)) B1) (hn : ns ≠ []) (hg : Glb g "max" := by rfl) (he : ∀ env : Env, starEach [a] env = (false, eval a env) :: starEach [] env := by intro _; rfl) (hpl : ∀ env : Env, (backTo pos (starEach [] env)).any (·.1) = false := by intro _; rfl) : Ev g (.Call (.Name "max" p) [a] [] pos) ρ B (.int (maxL ns)) B1 :=
  ev_callB (k_max hn) hg bl.max bt_max (evs_cons ha evs_nil he) (by decide) (by decide) he hpl
theorem ev_min (bl : Bl g.T) {ns : List Int} (ha : Ev g a ρ B (.lst (ns.map .int)) B1) (hn : ns ≠ []) (hg : Glb g "min" := by rfl) (he : ∀ env : Env, starEach [a] env = (false, eval a env) :: starEach [] env := by intro _; rfl) (hpl : ∀ env : Env, (backTo pos (starEach [] env)).any (·.1) = false := by intro _; rfl) : Ev g (.Call (.Name "min" p) [a] [] pos) ρ B (.int (minL ns)) B1 :=
  ev_callB (k_min hn) hg bl.min bt_min (evs_cons ha evs_nil he) (by decide) (by decide) he hpl
theorem ev_tuple (bl : Bl g.T) (ha : Ev g a ρ B x B1) (hx : x.seq = some ds) (hg : Glb g "tuple" := by rfl) (he : ∀ env : Env, starEach [a] env = (false, eval a env) :: starEach [] env := by intro _; rfl) (hpl : ∀ env : Env, (backTo pos (starEach [] env)).any (·.1) = false := by intro _; rfl) : Ev g (.Call (.Name "tuple" p) [a] [] pos) ρ B (.tup ds) B1 :=
  ev_callTy (k_tuple hx) hg bl.tuple bt_tuple (evs_cons ha evs_nil he) (by decide) (by decide) he hpl
theorem evr_sorted (bl : Bl g.T) {r : Res} (hc : CallD g (.builtin "sorted") [x] r) (ha : Ev g a ρ B x B1) (hg : Glb g "sorted" := by rfl) (he : ∀ env : Env, starEach [a] env = (false, eval a env) :: starEach [] env := by intro _; rfl) (hpl : ∀ env : Env, (backTo pos (starEach [] env)).any (·.1) = false := by intro _; rfl) : EvR g (.Call (.Name "sorted" p) [a] [] pos) ρ B r B1 :=
  ev_callB hc hg bl.sorted bt_sorted (evs_cons ha evs_nil he) (by decide) (by decide) he hpl
/-- comprehensions with the bag, typed elements, the turns counted -/
def mapT {α γ : Type} (f : α → Bag → γ × Bag) : List α → Bag → List γ × Bag
  | [], B => ([], B)
  | a :: xs, B => ((f a B).1 :: (mapT f xs (f a B).2).1, (mapT f xs (f a B).2).2)
theorem mapT_inv {α γ : Type} {f : α → Bag → γ × Bag} (P : Nat → Bag → Prop) (Q : γ → Prop) : ∀ (xs : List α) (B : Bag) (n : Nat), P n B → (∀ a ∈ xs, ∀ m B, n ≤ m → m < n + xs.length → P m B → P (m + 1) (f a B).2 ∧ Q (f a B).1) → P (n + xs.length) (mapT f xs B).2 ∧ (∀ y ∈ (mapT f xs B).1, Q y) ∧ (mapT f xs B).1.length = xs.length
  | [], B, n, h, _ => ⟨h, fun y hy => (nomatch hy), rfl⟩
  | a :: xs, B, n, h, hs => by
    obtain ⟨h1, h2⟩ := hs a List.mem_cons_self n B (Nat.le_refl _) (by simp) h
    obtain ⟨g1, g2, g3⟩ := mapT_inv P Q xs _ (n + 1) h1 fun b hb m B hm hl => hs b (List.mem_cons_of_mem _ hb) m B (by omega) (by simp; omega)
    refine ⟨by rw [List.length_cons, show n + (xs.length + 1) = n + 1 + xs.length by omega]; exact g1, fun y hy => ?_, by show _ + 1 = _; rw [g3]; rfl⟩
    rcases List.mem_cons.mp hy with rfl | hy
    · exact h2
    · exact g2 y hy
end
section
variable {α γ : Type} {g : G} {ρ ρb : Rho} {B B1 : Bag} {tg iter elt : Expr} {scope : Scope} {own : List (Str × Nat)} {pos : Pos}
theorem run_bagI {S : D → Bag → Option D → Bag → Prop} (P : Nat → Bag → Prop) (em : α → D) (en : γ → D) (f : α → Bag → γ × Bag) : ∀ (xs : List α) (B : Bag) (n : Nat), P n B → (∀ a ∈ xs, ∀ m B, n ≤ m → m < n + xs.length → P m B → S (em a) B (some (en (f a B).1)) (f a B).2 ∧ P (m + 1) (f a B).2) → LcRun S (xs.map em) B ((mapT f xs B).1.map en) (mapT f xs B).2
  | [], B, n, _, _ => .nil
  | a :: xs, B, n, hP, h => .keep (h a List.mem_cons_self n B (Nat.le_refl _) (by simp) hP).1 (run_bagI P em en f xs _ (n + 1) (h a List.mem_cons_self n B (Nat.le_refl _) (by simp) hP).2 fun b hb m B hm hl => h b (List.mem_cons_of_mem _ hb) m B (by omega) (by simp; omega))
theorem ev_lcBI (P : Nat → Bag → Prop) (xs : List α) (em : α → D) (en : γ → D) (f : α → Bag → γ × Bag) (hi : ItD g tg iter ρ B (xs.map em) B1) (ok : blkC g.N g.sc scope own = true) (hρ : noOwn (fgt ρ (own.map (·.2))) = ρb) (hl : xs.length ≤ 1000000) (hP : P 0 B1)
    (ht : ∀ a ∈ xs, ∀ m B, m < xs.length → P m B → (∃ ρ' js, Tg (blkG g scope) tg ρb (em a) ρ' js ∧ (∀ i ∈ js, i ∈ own.map (·.2)) ∧ Ev (blkG g scope) elt ρ' B (en (f a B).1) (f a B).2) ∧ P (m + 1) (f a B).2)
    (hf : ∀ (env : Env) x, foldedSetIterable iter env x = pure x := by intro _ _; rfl) : Ev g (.ListComp elt [⟨tg, iter, [], 0⟩] scope pos) ρ B (.lst ((mapT f xs B1).1.map en)) (mapT f xs B1).2 := by
  refine (evr_lc hi ok hρ (run_bagI P em en f xs B1 0 hP fun a ha m B _ hm hB => ?_) (by rw [List.length_map]; exact hl) hf).fz
  obtain ⟨⟨ρ', js, h1, h2, h3⟩, h4⟩ := ht a ha m B (by omega) hB
  exact ⟨⟨ρ', js, true, B, h1, h2, tsl_nil, rfl, h3⟩, h4⟩
variable {ifs : List Expr} {n : Str}
theorem ev_lcE (em : α → D) (en : γ → D) (q : α → γ) (xs : List α) (hi : ItD g tg iter ρ B (xs.map em) B1) (ok : blkC g.N g.sc scope own = true) (hρ : noOwn (fgt ρ (own.map (·.2))) = ρb) (hl : xs.length ≤ 1000000)
    (ht : ∀ a ∈ xs, LcP (blkG g scope) tg elt [] ρb (own.map (·.2)) B1 (em a) true (en (q a)))
    (hf : ∀ (env : Env) x, foldedSetIterable iter env x = pure x := by intro _ _; rfl) : Ev g (.ListComp elt [⟨tg, iter, [], 0⟩] scope pos) ρ B (.lst ((xs.map q).map en)) B1 := by
  rw [List.map_map]
  exact ev_lc0 xs em (fun a => en (q a)) hi ok hρ hl ht hf
theorem ev_lcF (em : α → D) (en : γ → D) (p : α → Bool) (q : α → γ) (xs : List α) (hi : ItD g tg iter ρ B (xs.map em) B1) (ok : blkC g.N g.sc scope own = true) (hρ : noOwn (fgt ρ (own.map (·.2))) = ρb) (hl : xs.length ≤ 1000000)
    (ht : ∀ a ∈ xs, LcP (blkG g scope) tg elt ifs ρb (own.map (·.2)) B1 (em a) (p a) (en (q a)))
    (hf : ∀ (env : Env) x, foldedSetIterable iter env x = pure x := by intro _ _; rfl) : Ev g (.ListComp elt [⟨tg, iter, ifs, 0⟩] scope pos) ρ B (.lst (((xs.filter p).map q).map en)) B1 := by
  rw [List.map_map]
  exact ev_lcP xs em p (fun a => en (q a)) hi ok hρ hl ht hf
theorem evr_lcE (em : α → D) (en : γ → D) (q : α → γ) (xs : List α) (hi : ItD g tg iter ρ B (xs.map em) B1) (ok : blkC g.N g.sc scope own = true) (hρ : noOwn (fgt ρ (own.map (·.2))) = ρb) (hl : xs.length ≤ 1000000)
    (ht : ∀ a ∈ xs, LcP (blkG g scope) tg elt [] ρb (own.map (·.2)) B1 (em a) true (en (q a)))
    (hf : ∀ (env : Env) x, foldedSetIterable iter env x = pure x := by intro _ _; rfl) : EvR g (.ListComp elt [⟨tg, iter, [], 0⟩] scope pos) ρ B (.o (.l ((xs.map q).map en))) B1 := by
  rw [List.map_map]
  exact evr_lc0 xs em (fun a => en (q a)) hi ok hρ hl ht hf
theorem ex_setE {i : Nat} {py spos : Pos} {E : En} (em : α → D) (en : γ → D) (q : α → γ) (xs : List α) (s : St1 g i n) (hy : g.sc.names.lookup n = some .local) (hi : ItD g tg iter ρ B (xs.map em) B1) (ok : blkC g.N g.sc scope own = true) (hρ : noOwn (fgt ρ (own.map (·.2))) = ρb) (hl : xs.length ≤ 1000000)
    (ht : ∀ a ∈ xs, LcP (blkG g scope) tg elt [] ρb (own.map (·.2)) B1 (em a) true (en (q a))) (h : E.nx (ρ.set i (.d (.lst ((xs.map q).map en)))) B1)
    (hl2 : (py.line == pos.line) = true := by rfl) (ha : (scope.names.any fun (m, k) => m == n && (k == .local || k == .cell)) = false := by decide +kernel)
    (hf : ∀ (env : Env) x, foldedSetIterable iter env x = pure x := by intro _ _; rfl) : Ex g (.Assign [.Name n py] (.ListComp elt [⟨tg, iter, [], 0⟩] scope pos) spos) ρ B E := by
  rw [List.map_map] at h
  exact ex_setLcD s hy hi ok hρ (LcP.run0 ht) (by rw [List.length_map]; exact hl) h hl2 ha hf
theorem ex_setF {i : Nat} {py spos : Pos} {E : En} (em : α → D) (en : γ → D) (p : α → Bool) (q : α → γ) (xs : List α) (s : St1 g i n) (hy : g.sc.names.lookup n = some .local) (hi : ItD g tg iter ρ B (xs.map em) B1) (ok : blkC g.N g.sc scope own = true) (hρ : noOwn (fgt ρ (own.map (·.2))) = ρb) (hl : xs.length ≤ 1000000)
    (ht : ∀ a ∈ xs, LcP (blkG g scope) tg elt ifs ρb (own.map (·.2)) B1 (em a) (p a) (en (q a))) (h : E.nx (ρ.set i (.d (.lst (((xs.filter p).map q).map en)))) B1)
    (hl2 : (py.line == pos.line) = true := by rfl) (ha : (scope.names.any fun (m, k) => m == n && (k == .local || k == .cell)) = false := by decide +kernel)
    (hf : ∀ (env : Env) x, foldedSetIterable iter env x = pure x := by intro _ _; rfl) : Ex g (.Assign [.Name n py] (.ListComp elt [⟨tg, iter, ifs, 0⟩] scope pos) spos) ρ B E := by
  rw [List.map_map] at h
  exact ex_setLcD s hy hi ok hρ (LcP.run ht) (by rw [List.length_map]; exact hl) h hl2 ha hf
end
section
variable {α : Type} {g : G} {ρ ρ1 : Rho} {B : Bag} {tg iter tg1 iter1 elt : Expr} {ifs ifs1 : List Expr} {is vs1 : List Nat}
/-- an outer turn of two clauses, pure, typed -/
structure L2P (g : G) (tg tg1 iter1 elt : Expr) (ifs : List Expr) (ρ : Rho) (is vs1 : List Nat) (B : Bag) (d : D) (k : Bool) (out : List D) : Prop where
  ex : ∃ ρ' js, Tg g tg ρ d ρ' js ∧ (∀ i ∈ js, i ∈ is) ∧ TsL g ifs ρ' B k B ∧ (k = true → ∃ ds1 ρ1, ItD g tg1 iter1 ρ' B ds1 B ∧ noOwn (fgt ρ' vs1) = ρ1 ∧ LcRun (LcTurn g tg1 elt [] ρ1 vs1) ds1 B out B ∧ ds1.length ≤ 1000)
theorem L2P.run {em : α → D} {k : α → Bool} {out : α → List D} : ∀ {xs : List α}, (∀ a ∈ xs, L2P g tg tg1 iter1 elt ifs ρ is vs1 B (em a) (k a) (out a)) → L2Run (L2Turn g tg tg1 iter1 elt ifs [] ρ is vs1) (xs.map em) B ((xs.filter k).flatMap out) B
  | [], _ => .nil
  | a :: xs, h => by
    have ih := L2P.run (xs := xs) fun b hb => h b (List.mem_cons_of_mem _ hb)
    obtain ⟨ρ', js, h1, h2, h3, h4⟩ := (h a List.mem_cons_self).ex
    rw [List.map_cons]
    cases hk : k a with
    | true =>
      rw [hk] at h3
      obtain ⟨ds1, ρ1, g1, g2, g3, g4⟩ := h4 hk
      rw [List.filter_cons_of_pos hk, List.flatMap_cons]
      exact .cons ⟨ρ', js, true, B, h1, h2, h3, (fun h => nomatch h), fun _ => ⟨ds1, B, ρ1, g1, g2, g3, g4⟩⟩ ih
    | false =>
      rw [hk] at h3
      rw [List.filter_cons_of_neg (by rw [hk]; exact Bool.false_ne_true)]
      exact L2Run.cons (o1 := []) ⟨ρ', js, false, B, h1, h2, h3, fun _ => ⟨rfl, rfl⟩, fun h => nomatch h⟩ ih
end
theorem zipD_map {α β : Type} (f : α → D) (h : β → D) (xs : List α) (ys : List β) : zipD (xs.map f) (ys.map h) = (xs.zip ys).map fun p => .tup [f p.1, h p.2] := by
  unfold zipD
  rw [List.zip_map, List.map_map]
  rfl
/-- marks of folk, in the order of their first coming -/
def insN (ks : List Nat) (k : Nat) : List Nat := if k ∈ ks then ks else ks ++ [k]
def dedN (ns : List Nat) : List Nat := ns.foldl insN []
theorem insK_cast (ks : List Nat) (k : Nat) : insK (ks.map fun n : Nat => (n : Int)) (k : Int) = (insN ks k).map fun n : Nat => (n : Int) := by
  unfold insK insN
  by_cases h : k ∈ ks
  · rw [if_pos h, if_pos (List.mem_map.mpr ⟨k, h, rfl⟩)]
  · rw [if_neg h, if_neg (fun z => by
      obtain ⟨m, h1, h2⟩ := List.mem_map.mp z
      exact h (by rwa [show k = m by omega])), List.map_append]
    rfl
theorem insK_casts : ∀ (ns ks : List Nat), (ns.map fun n : Nat => (n : Int)).foldl insK (ks.map fun n : Nat => (n : Int)) = (ns.foldl insN ks).map fun n : Nat => (n : Int)
  | [], _ => rfl
  | n :: ns, ks => by rw [List.map_cons, List.foldl_cons, List.foldl_cons, insK_cast, insK_casts ns]
theorem dedN_cast (ns : List Nat) : (ns.map fun n : Nat => (n : Int)).foldl insK [] = (dedN ns).map fun n : Nat => (n : Int) := insK_casts ns []
theorem insN_spec : ∀ (ns ks : List Nat), ks.Nodup → (ns.foldl insN ks).Nodup ∧ ∀ w, w ∈ ns.foldl insN ks ↔ w ∈ ks ∨ w ∈ ns
  | [], ks, h => ⟨h, fun w => by simp⟩
  | n :: ns, ks, h => by
    have hn : (insN ks n).Nodup := by
      unfold insN
      split
      · exact h
      · rename_i h2
        exact List.nodup_append.mpr ⟨h, List.nodup_cons.mpr ⟨by simp, List.nodup_nil⟩, fun a ha b hb e => by simp at hb; subst hb; subst e; exact h2 ha⟩
    have hm : ∀ w, w ∈ insN ks n ↔ w ∈ ks ∨ w = n := fun w => by
      unfold insN
      split
      · rename_i h2
        exact ⟨.inl, fun z => z.elim id fun e => e ▸ h2⟩
      · simp
    obtain ⟨g1, g2⟩ := insN_spec ns _ hn
    refine ⟨g1, fun w => ?_⟩
    rw [List.foldl_cons, g2, hm, List.mem_cons, or_assoc]
theorem insK_spec : ∀ (ns ks : List Int), ks.Nodup → (ns.foldl insK ks).Nodup ∧ ∀ w, w ∈ ns.foldl insK ks ↔ w ∈ ks ∨ w ∈ ns
  | [], ks, h => ⟨h, fun w => by simp⟩
  | n :: ns, ks, h => by
    have hn : (insK ks n).Nodup := by
      unfold insK
      split
      · exact h
      · rename_i h2
        exact List.nodup_append.mpr ⟨h, List.nodup_cons.mpr ⟨by simp, List.nodup_nil⟩, fun a ha b hb e => by simp at hb; subst hb; subst e; exact h2 ha⟩
    have hm : ∀ w, w ∈ insK ks n ↔ w ∈ ks ∨ w = n := fun w => by
      unfold insK
      split
      · rename_i h2
        exact ⟨.inl, fun z => z.elim id fun e => e ▸ h2⟩
      · simp
    obtain ⟨g1, g2⟩ := insK_spec ns _ hn
    refine ⟨g1, fun w => ?_⟩
    rw [List.foldl_cons, g2, hm, List.mem_cons, or_assoc]
theorem insK_le : ∀ (ns ks : List Int), (ns.foldl insK ks).length ≤ ks.length + ns.length
  | [], _ => Nat.le_refl _
  | n :: ns, ks => by
    have := insK_le ns (insK ks n)
    have := insK_len ks n
    rw [List.foldl_cons, List.length_cons]
    omega
theorem sortL_perm (ns : List Int) : (sortL ns).Perm ns := List.mergeSort_perm _ _
theorem sw_cell {g : G} {elt : Expr} {gs : List Comprehension} {scope : Scope} {pos py : Pos} {n : Str} {l : Nat} (h : g.sc.names.lookup n = some .cell) : ∀ env : Env, env.scope = g.sc → swapsWith (.ListComp elt gs scope pos) (some (.Name n py)) l env = pure false := by
  intro env he
  unfold swapsWith
  have hk : env.kindOf n = some .cell := by show env.scope.names.lookup n = _; rw [he]; exact h
  have h1 : (env.kindOf n == some NameKind.local) = false := by rw [hk]; rfl
  simp only [h1, Bool.and_false, Bool.false_and]
theorem ss_cell {g : G} {a b : Expr} {n n2 : Str} {px py pt pt2 : Pos} {kt k2 : Nat} (h : g.sc.names.lookup n2 = some .cell) : ∀ env : Env, env.scope = g.sc → swappedStores [.Tuple [.Name n px, .Name n2 py] kt pt] (.Tuple [a, b] k2 pt2) env = pure none := by
  intro env he
  have hk : env.kindOf n2 = some .cell := by show env.scope.names.lookup n2 = _; rw [he]; exact h
  have hc : (some NameKind.cell == some NameKind.local) = false := by decide
  unfold swappedStores
  simp only [List.filterMap_cons, List.filterMap_nil, hk, hc, Bool.false_and, Bool.false_eq_true, if_false]
  cases hb : (env.kindOf n == some NameKind.local && px.line == (Option.map (fun x => x.pos.line) [Expr.Name n px, Expr.Name n2 py].head?).getD 0)
  all_goals
    simp only [Bool.false_eq_true, if_false, if_true]
    split
    · rfl
    · split
      · rfl
      · rw [if_pos (by simp)]
theorem ss_non {n n2 : Str} {px py pt pt2 q1 q2 : Pos} {kt k2 : Nat} {j1 j2} : ∀ env : Env, swappedStores [.Tuple [.Name n px, .Name n2 py] kt pt] (.Tuple [.Constant .none j1 q1, .Constant .none j2 q2] k2 pt2) env = pure none := by
  intro env
  have h : (([.Constant .none j1 q1, .Constant .none j2 q2] : List Expr).all (foldedForSure 8)) = true := by rfl
  unfold swappedStores
  simp only [h]
  split
  · rfl
  · split
    · rfl
    · split
      · rfl
      · rfl
theorem ex_asgS {g : G} {ρ ρ' : Rho} {B B1 : Bag} {tg e : Expr} {x : D} {is : List Nat} {pos : Pos} {E : En} (he : Ev g e ρ B x B1) (ht : Tg g tg ρ x ρ' is) (h : E.nx ρ' B1) (hw : ∀ env : Env, env.scope = g.sc → swappedStores [tg] e env = pure none) (hs : ∀ env : Env, swapsWithSole [tg] e pos.line env = pure false := by intro _; rfl)
    (h1 : ∀ env : Env, (assignEach [tg] env).map (·.2) = [assign tg env] := by intro _; rfl) : Ex g (.Assign [tg] e pos) ρ B E :=
  ⟨fun X hX => PS.imp (ps_asg (he.h X hX) (ht.h X hX) (hs X.env) (hw X.env hX.hs) (h1 X.env)) fun D σ H ⟨c, F, R, q1, _⟩ => ⟨c, F, R, fun v H' F' R' e' ok _ => ⟨c, B1, F', R', ok, fun σ' R2 _ => q1 ρ' B1 σ' H' F' R2 e' h⟩⟩⟩
theorem EvR.to {g : G} {ρ : Rho} {B B1 : Bag} {e : Expr} {x y : D} (h : Ev g e ρ B x B1) (z : x = y) : Ev g e ρ B y B1 := z ▸ h
theorem cutD_one (xs : List D) : cutD xs (some 1) none = xs.drop 1 := by
  unfold cutD
  rw [show (1 : Int) = ((1 : Nat) : Int) from rfl, HT.sIx_nat, HT.sIx_none]
  rw [List.take_of_length_le (by rw [List.length_drop]; exact Nat.le_refl _)]
  cases xs with
  | nil => rfl
  | cons x xs => rw [show min 1 (x :: xs).length = 1 by simp]
theorem zip_tail (os : List Nat) : zipD (os.map nD) ((os.map nD).drop 1) = (os.zip (os.drop 1)).map fun p => .tup [nD p.1, nD p.2] := by
  unfold zipD
  rw [← List.map_drop, List.zip_map, List.map_map]
  rfl
end PD
namespace PD
open PySem PySem.Spec PyProof.Rows L2 RZ
section
variable {g : G} {ρ ρb : Rho} {B B1 B2 : Bag} {tg iter tg1 iter1 kx : Expr} {ifs ifs1 : List Expr} {scope : Scope} {own : List (Str × Nat)} {pos : Pos} {ds : List D}
theorem lc2_read {out : List D} {wi : TI} {σ : L2.St} {H : Hp} {Q : VK} {vs1 : List Nat} (hρ : noOwn (fgt ρ (own.map (·.2))) = ρb) (hvs : ∀ i ∈ vs1, i ∈ own.map (·.2))
    (qi : ∀ (c : C0) (σ : L2.St) (H F : Hp) (Re : It → Hp → Prop), Rel g.T.K c ρ B σ H F → (∀ J H1 F1, Rel g.T.K c ρ B1 σ H1 F1 → Same F F1 → WalkD g.T.K c.β J ds F1 → Re J H1) → wi σ H Re)
    (run : L2Run (L2Turn (blkG g scope) tg tg1 iter1 kx ifs ifs1 ρb (own.map (·.2)) vs1) ds B1 out B2) (hlen : ds.length ≤ 1000) (h : tEv g.T.K ρ B (.o (.l out)) B2 σ H Q) :
    tLc2 wi (rdG (blkG g scope) tg) (rdT (blkG g scope) ifs) (rdI (blkG g scope) tg1 iter1) (rdG (blkG g scope) tg1) (rdT (blkG g scope) ifs1) (rdE (blkG g scope) kx) (own.map (·.2)) vs1 σ H Q := by
  have hz : (sizeLine : Nat) = 16777216 := sizeLine_eq
  obtain ⟨c, F, R, q⟩ := h
  refine qi c σ H F _ R fun J1 H1 F1 R1 e1 w => ?_
  intro L nL
  have n0 : c.H0 L = none := R1.H0_none nL
  have hap : ∀ (i : Nat) (ct : Ct) (q : Addr), ρ[i]? = some (.o ct) → σ[i]? = some (some (.ref q)) → q ≠ L := fun i ct p h1 h2 z => R1.apart (r := .o ct) nL ct rfl i ct p h1 h2 (by rw [z])
  refine ⟨fun i m H' => m = ds.length - i ∧ i ≤ ds.length ∧ ∃ (F' : Hp) (done : List D) (ks : List V) (Bi : Bag) (rest : List D), Rel g.T.K c ρ Bi σ H' F' ∧ Same F1 F' ∧ H' L = some (.lst ks) ∧ F' L = none ∧ RepAll g.T.K c.β F' done ks ∧ ks.length ≤ i * 1000 ∧
      L2Run (L2Turn (blkG g scope) tg tg1 iter1 kx ifs ifs1 ρb (own.map (·.2)) vs1) (ds.drop i) Bi rest B2 ∧ done ++ rest = out, ⟨_, rfl, Nat.zero_le _, F1, [], [], B1, out, R1.newO nL, Same.refl F1, upd_same, R1.F_none nL, .nil, Nat.zero_le _, run, rfl⟩, ?_⟩
  rintro i m H' ⟨rfl, hle, F', done, ks, Bi, rest, R', e', hD, nF, hr, hkl, hrun, hout⟩
  by_cases hlt : i < ds.length
  · have nb : some L ≠ c.β := R'.H_none n0
    have nL' : H' L ≠ none := by rw [hD]; exact fun z => nomatch z
    refine .inr ⟨w.goes i H' hlt (e'.trans R'.sub), fun H2 => ∃ (F2 : Hp) (done : List D) (ks : List V) (Bi : Bag) (rest : List D), Rel g.T.K c ρ Bi σ H2 F2 ∧ Same F1 F2 ∧ H2 L = some (.lst ks) ∧ F2 L = none ∧ RepAll g.T.K c.β F2 done ks ∧ ks.length ≤ (i + 1) * 1000 ∧
      L2Run (L2Turn (blkG g scope) tg tg1 iter1 kx ifs ifs1 ρb (own.map (·.2)) vs1) (ds.drop (i + 1)) Bi rest B2 ∧ done ++ rest = out, fun H2 h2 => ⟨ds.length - (i + 1), by omega, rfl, hlt, h2⟩, fun v H2 y => ?_⟩
    have Rb : Rel g.T.K ⟨c.β, H', F'⟩ ρb Bi (wipe σ (own.map (·.2))) H' F' := by
      rw [← hρ]
      exact (R'.fgt _).enter
    obtain ⟨d, F2, hd, R2, e2, hrep⟩ := walk_step (c := ⟨c.β, H', F'⟩) w Rb e' hlt y
    have hdrop : ds.drop i = d :: ds.drop (i + 1) := by
      obtain ⟨hl, he⟩ := List.getElem?_eq_some_iff.mp hd
      rw [List.drop_eq_getElem_cons hl, he]
    rw [hdrop] at hrun
    cases hrun with
    | @cons _ _ r1 r2 _ Bb _ hS hrest =>
      obtain ⟨ρ', js, b, Bm, ht, hjs, htt, hb0, hb1⟩ := hS
      refine ⟨ρb, d, ρ', js, ht, _, Bi, F2, R2, hrep, fun σ3 R3 hw => ⟨(hw _ hjs).trans wipe_wipe, ρ', Bi, b, Bm, htt, _, F2, R3, fun H4 F4 R4 e4 => ?_⟩⟩
      cases b with
      | false =>
        obtain ⟨ho, rfl⟩ := hb0 rfl
        refine iteF ?_
        rw [ho] at hout
        exact ⟨F4, done, ks, Bb, r2, R'.leave R4, (e'.trans e2).trans e4, R4.fr L _ nb hD, R4.dj L nL' nF, hr.mono (e2.trans e4), by omega, hrest, hout⟩
      | true =>
        obtain ⟨ds1, Bn, ρ1, hit, hρ1, hrun1, hl1⟩ := hb1 rfl
        refine iteT ⟨ρ', Bm, ds1, Bn, hit, _, F4, R4, fun J2 H5 F5 R5 e5 w5 => ?_⟩
        have e05 : Same F' F5 := (e2.trans e4).trans e5
        -- the inner loop: by its turn
        have nb1 : ∀ (i : Nat) (ct : Ct), ρ1[i]? ≠ some (.o ct) := fun i ct z => by rw [← hρ1] at z; exact noOwn_o z
        have hsh : ρ1.length = (wipe σ3 vs1).length ∧ ∀ (i : Nat) (x : D), ρ1[i]? = some (.d x) → ∃ v, (wipe σ3 vs1)[i]? = some (some v) ∧ Rep g.T.K c.β F5 x v := by
          have z := (R5.fgt vs1)
          refine ⟨by rw [← hρ1]; unfold noOwn; rw [List.length_map]; exact z.len, fun i x h => ?_⟩
          rw [← hρ1] at h
          exact z.dat i x (noOwn_d h)
        refine ⟨fun j m H6 => m = ds1.length - j ∧ j ≤ ds1.length ∧ ∃ (F6 : Hp) (done6 : List D) (ks6 : List V) (B6 : Bag) (rest6 : List D), Rel g.T.K c ρ B6 σ H6 F6 ∧ Same F5 F6 ∧ H6 L = some (.lst ks6) ∧ F6 L = none ∧ RepAll g.T.K c.β F6 done6 ks6 ∧ ks6.length ≤ i * 1000 + j ∧
            LcRun (LcTurn (blkG g scope) tg1 kx ifs1 ρ1 vs1) (ds1.drop j) B6 rest6 Bb ∧ done6 ++ (rest6 ++ r2) = out,
          ⟨_, rfl, Nat.zero_le _, F5, done, ks, Bn, r1, R'.leave R5, Same.refl F5, R5.fr L _ nb hD, R5.dj L nL' nF, hr.mono e05, hkl, hrun1, hout⟩, ?_⟩
        rintro j m H6 ⟨rfl, hj, F6, done6, ks6, B6, rest6, A6, e56, hD6, nF6, hr6, hk6, hrun6, hout6⟩
        by_cases hjl : j < ds1.length
        · refine .inr ⟨w5.goes j H6 hjl (e56.trans A6.sub), fun H7 => ∃ (F7 : Hp) (done7 : List D) (ks7 : List V) (B7 : Bag) (rest7 : List D), Rel g.T.K c ρ B7 σ H7 F7 ∧ Same F5 F7 ∧ H7 L = some (.lst ks7) ∧ F7 L = none ∧ RepAll g.T.K c.β F7 done7 ks7 ∧ ks7.length ≤ i * 1000 + (j + 1) ∧
            LcRun (LcTurn (blkG g scope) tg1 kx ifs1 ρ1 vs1) (ds1.drop (j + 1)) B7 rest7 Bb ∧ done7 ++ (rest7 ++ r2) = out, fun H7 h7 => ⟨ds1.length - (j + 1), by omega, rfl, hjl, h7⟩, fun v1 H7 y1 => ?_⟩
          have nL6 : H6 L ≠ none := by rw [hD6]; exact fun z => nomatch z
          have Bl : Rel g.T.K ⟨c.β, H6, F6⟩ ρ1 B6 (wipe σ3 vs1) H6 F6 :=
            ⟨hsh.1, fun b o _ h => h, Same.refl F6, fun b _ h => h, A6.sub, fun a h => ⟨(A6.bag a h).1, (by show H6 a ≠ none; rw [(A6.bag a h).1]; exact fun z => nomatch z), A6.F_bag h⟩,
              fun i x h => let ⟨v, g1, g2⟩ := hsh.2 i x h; ⟨v, g1, g2.mono e56⟩, fun i ct h => absurd h (nb1 i ct), fun i j ct ct' p h => absurd h (nb1 i ct)⟩
          obtain ⟨d1, F7, hd1, R7, e7, hrep1⟩ := walk_step (c := ⟨c.β, H6, F6⟩) w5 Bl e56 hjl y1
          have hdrop1 : ds1.drop j = d1 :: ds1.drop (j + 1) := by
            obtain ⟨hl, he⟩ := List.getElem?_eq_some_iff.mp hd1
            rw [List.drop_eq_getElem_cons hl, he]
          rw [hdrop1] at hrun6
          cases hrun6 with
          | @keep _ yy _ out6 _ B8 _ hS6 hrest6 =>
            obtain ⟨ρ'', js1, b1, Bm1, ht1, hjs1, htt1, hbt1, hel1⟩ := hS6
            subst hbt1
            refine ⟨ρ1, d1, ρ'', js1, ht1, _, B6, F7, R7, hrep1, fun σ8 R8 hw8 => ⟨(hw8 _ hjs1).trans wipe_wipe, ρ'', B6, true, Bm1, htt1, _, F7, R8, fun H9 F9 R9 e9 => iteT ⟨ρ'', Bm1, yy, B8, hel1, _, F9, R9, fun u Hx Fx Rx ex hu _ => ?_⟩⟩⟩
            have hDx : Hx L = some (.lst ks6) := Rx.fr L _ nb hD6
            have nFx : Fx L = none := Rx.dj L nL6 nF6
            have e6x : Same F6 Fx := (e7.trans e9).trans ex
            refine ⟨ks6, hDx, by omega, ?_⟩
            exact ⟨Fx, done6 ++ [yy], ks6 ++ [u], B8, out6, (A6.leave Rx).wr n0 nFx hap, e56.trans e6x, upd_same, nFx, (hr6.mono e6x).append (.cons hu .nil), by rw [List.length_append]; simp; omega, hrest6, by rw [← hout6]; simp⟩
          | @drop _ _ _ _ B8 _ hS6 hrest6 =>
            obtain ⟨ρ'', js1, b1, Bm1, ht1, hjs1, htt1, hbt1, hel1⟩ := hS6
            subst hbt1 hel1
            refine ⟨ρ1, d1, ρ'', js1, ht1, _, B6, F7, R7, hrep1, fun σ8 R8 hw8 => ⟨(hw8 _ hjs1).trans wipe_wipe, ρ'', B6, false, B8, htt1, _, F7, R8, fun H9 F9 R9 e9 => iteF ?_⟩⟩
            exact ⟨F9, done6, ks6, B8, rest6, A6.leave R9, e56.trans (e7.trans e9), R9.fr L _ nb hD6, R9.dj L nL6 nF6, hr6.mono (e7.trans e9), by omega, hrest6, hout6⟩
        · have hje : j = ds1.length := by omega
          subst hje
          rw [List.drop_length] at hrun6
          cases hrun6
          rw [List.nil_append] at hout6
          exact .inl ⟨w5.stops H6 (e56.trans A6.sub), F6, done6, ks6, _, r2, A6, e'.trans (e05.trans e56), hD6, nF6, hr6, by omega, hrest, hout6⟩
  · have hie : i = ds.length := by omega
    subst hie
    rw [List.drop_length] at hrun
    cases hrun
    rw [List.append_nil] at hout
    subst hout
    exact .inl ⟨w.stops H' (e'.trans R'.sub), q (.ref L) H' F' R' (e1.trans e') ⟨L, rfl, ⟨_, hD, ⟨ks, rfl, by omega, hr⟩⟩, n0, nF⟩ fun _ _ i ct p h1 h2 z => hap i ct p h1 h2 (V.ref.inj z).symm⟩
theorem evr_lc2 {out : List D} {vs1 : List Nat} (hi : ItD g tg iter ρ B ds B1) (ok : blkC g.N g.sc scope own = true) (hρ : noOwn (fgt ρ (own.map (·.2))) = ρb) (hvs : ∀ i ∈ vs1, i ∈ own.map (·.2))
    (run : L2Run (L2Turn (blkG g scope) tg tg1 iter1 kx ifs ifs1 ρb (own.map (·.2)) vs1) ds B1 out B2) (hlen : ds.length ≤ 1000)
    (hf : ∀ (env : Env) x, foldedSetIterable iter env x = pure x := by intro _ _; rfl) (hf1 : ∀ (env : Env) x, foldedSetIterable iter1 env x = pure x := by intro _ _; rfl) :
    EvR g (.ListComp kx [⟨tg, iter, ifs, 0⟩, ⟨tg1, iter1, ifs1, 0⟩] scope pos) ρ B (.o (.l out)) B2 := by
  refine ⟨fun X hX => ?_⟩
  obtain ⟨wi, pi, qi⟩ := hi.h X hX
  have okX : BlkOk X.N X.env.scope scope own := by rw [hX.hN, hX.hs]; exact blkOk_by ok
  have ndX : X.N.Nodup := by rw [hX.hN]; exact hX.nd
  exact PE.imp (pe_lc2 hX.calm ndX pi okX hvs (fun s H C cl fp => rdG_ok (hX.blk scope s H C cl fp)) (fun s H C cl fp => rdT_ok (hX.blk scope s H C cl fp)) (fun s H C cl fp => rdI_ok (hX.blk scope s H C cl fp)) (fun s H C cl fp => rdG_ok (hX.blk scope s H C cl fp)) (fun s H C cl fp => rdT_ok (hX.blk scope s H C cl fp)) (fun s H C cl fp => rdE_ok (hX.blk scope s H C cl fp)) (hf X.env) hf1) fun σ H Q h => lc2_read hρ hvs qi run hlen h
end
section
variable {g : G} {ρ : Rho} {B : Bag} {pos pos' : Pos} {n : Str} {E : En}
/-- return x, x an own thing: it is the caller's own -/
theorem ex_retOwn {i : Nat} {ct : Ct} (hN : g.N[i]? = some n) (hv : Vis g.sc n) (hi : ρ[i]? = some (.o ct)) (h : E.rt (.o ct) B) (hd : (n == ("__debug__" : Str)) = false := by decide) (hcd : (n == ("__classdict__" : Str)) = false := by decide) : Ex g (.Return (some (.Name n pos)) pos') ρ B E :=
  ⟨fun X hX => PS.imp (ps_ret (pe_var (X := X) (i := i) (by rw [hX.hN]; exact hN) (by rw [hX.hs]; exact hv) hd hcd)) fun D σ H ⟨c, F, R, q1, q2, _⟩ => by
    obtain ⟨p, h1, h2⟩ := R.own i ct hi
    exact ⟨.ref p, h1, q2 ρ B σ H F (.o ct) (.ref p) R (Same.refl F) ⟨p, rfl, h2⟩ h⟩⟩
end
section
variable {α : Type} {g : G} {ρ ρ1 : Rho} {B : Bag} {tg iter tg1 iter1 elt : Expr} {ifs ifs1 : List Expr} {is vs1 : List Nat}
structure L2Q (g : G) (tg tg1 iter1 elt : Expr) (ifs ifs1 : List Expr) (ρ : Rho) (is vs1 : List Nat) (B : Bag) (d : D) (k : Bool) (out : List D) : Prop where
  ex : ∃ ρ' js, Tg g tg ρ d ρ' js ∧ (∀ i ∈ js, i ∈ is) ∧ TsL g ifs ρ' B k B ∧ (k = true → ∃ ds1 ρ1, ItD g tg1 iter1 ρ' B ds1 B ∧ noOwn (fgt ρ' vs1) = ρ1 ∧ LcRun (LcTurn g tg1 elt ifs1 ρ1 vs1) ds1 B out B ∧ ds1.length ≤ 1000)
theorem L2Q.run {em : α → D} {k : α → Bool} {out : α → List D} : ∀ {xs : List α}, (∀ a ∈ xs, L2Q g tg tg1 iter1 elt ifs ifs1 ρ is vs1 B (em a) (k a) (out a)) → L2Run (L2Turn g tg tg1 iter1 elt ifs ifs1 ρ is vs1) (xs.map em) B ((xs.filter k).flatMap out) B
  | [], _ => .nil
  | a :: xs, h => by
    have ih := L2Q.run (xs := xs) fun b hb => h b (List.mem_cons_of_mem _ hb)
    obtain ⟨ρ', js, h1, h2, h3, h4⟩ := (h a List.mem_cons_self).ex
    rw [List.map_cons]
    cases hk : k a with
    | true =>
      rw [hk] at h3
      obtain ⟨ds1, ρ1, g1, g2, g3, g4⟩ := h4 hk
      rw [List.filter_cons_of_pos hk, List.flatMap_cons]
      exact .cons ⟨ρ', js, true, B, h1, h2, h3, (fun h => nomatch h), fun _ => ⟨ds1, B, ρ1, g1, g2, g3, g4⟩⟩ ih
    | false =>
      rw [hk] at h3
      rw [List.filter_cons_of_neg (by rw [hk]; exact Bool.false_ne_true)]
      exact L2Run.cons (o1 := []) ⟨ρ', js, false, B, h1, h2, h3, fun _ => ⟨rfl, rfl⟩, fun h => nomatch h⟩ ih
end
end PD
namespace PD
open PySem PySem.Spec PyProof.Rows L2 RZ
/-! ### a test that reads own things as data -/
def Sl.frz : Sl → Sl
  | .o ct => .d ct.d
  | s => s
def frz (ρ : Rho) : Rho := ρ.map Sl.frz
theorem frz_get {ρ : Rho} {i : Nat} {s : Sl} (h : (frz ρ)[i]? = some s) : ∃ t, ρ[i]? = some t ∧ s = t.frz := by
  unfold frz at h
  rw [List.getElem?_map] at h
  obtain ⟨t, h1, h2⟩ := Option.map_eq_some_iff.mp h
  exact ⟨t, h1, h2.symm⟩
section
variable {g : G} {ρ : Rho} {B B' : Bag} {e : Expr} {k : Bool}
open Classical in
theorem Rel.borrow {K : PySem.W.Frag} {c : C0} {σ : L2.St} {H F : Hp} (R : Rel K c ρ B σ H F) : ∃ F1, Same F F1 ∧ Rel K ⟨c.β, H, F1⟩ (frz ρ) B σ H F1 := by
  let own : Addr → Prop := fun z => ∃ (i : Nat) (ct : Ct), ρ[i]? = some (.o ct) ∧ σ[i]? = some (some (.ref z))
  have facts : ∀ z, own z → c.H0 z = none ∧ F z = none := fun z ⟨i, ct, h1, h2⟩ => by
    obtain ⟨p, hp, _, h4, h5⟩ := R.own i ct h1
    rw [h2] at hp
    cases hp
    exact ⟨h4, h5⟩
  have e1 : Same F (fun z => if own z then H z else F z) := fun b o h => by
    show (if own b then H b else F b) = some o
    rw [if_neg fun z => by rw [(facts b z).2] at h; cases h]
    exact h
  refine ⟨fun z => if own z then H z else F z, e1, ⟨?_, fun b o _ h => h, Same.refl _, fun b _ h => h, fun b o h => ?_, fun a h => ?_, fun i x h => ?_, fun i ct h => ?_, fun i j ct ct' p h => ?_⟩⟩
  · unfold frz
    rw [List.length_map]
    exact R.len
  · have h : (if own b then H b else F b) = some o := h
    split at h
    · exact h
    · exact R.sub b o h
  · refine ⟨(R.bag a h).1, (by show H a ≠ none; rw [(R.bag a h).1]; exact fun z => nomatch z), ?_⟩
    show (if own a then H a else F a) = none
    rw [if_neg fun z => (R.bag a h).2.1 (facts a z).1]
    exact R.F_bag h
  · obtain ⟨t, h1, h2⟩ := frz_get h
    cases t with
    | u => cases h2
    | d y =>
      cases h2
      obtain ⟨v, h3, h4⟩ := R.dat i x h1
      exact ⟨v, h3, h4.mono e1⟩
    | o ct =>
      cases h2
      obtain ⟨p, hp, ⟨ho, h3, h4⟩, _, _⟩ := R.own i ct h1
      refine ⟨.ref p, hp, (h4.mono e1).rep ?_⟩
      show (if own p then H p else F p) = some ho
      rw [if_pos ⟨i, ct, h1, hp⟩]
      exact h3
  · obtain ⟨t, _, h2⟩ := frz_get h
    cases t <;> cases h2
  · obtain ⟨t, _, h2⟩ := frz_get h
    cases t <;> cases h2
theorem ts_borrow (h : Ts g e (frz ρ) B k B') : Ts g e ρ B k B' :=
  ⟨fun X hX => PT.imp (h.h X hX) fun σ H Q ⟨c, F, R, q⟩ => by
    obtain ⟨F1, e1, R1⟩ := R.borrow
    refine ⟨_, F1, R1, fun H' F2 R2 e2 => q H' F ?_ (Same.refl F)⟩
    refine ⟨R.len, fun b o hb h => R2.fr b o hb (R.fr b o hb h), R.gr, R.dj, fun b o h => R2.sub b o (e2 b o (e1 b o h)), fun a h => ⟨(R2.bag a h).1, (R.bag a h).2⟩, R.dat, fun i ct h => ?_, R.sep⟩
    obtain ⟨p, hp, ⟨ho, h3, h4⟩, h5, h6⟩ := R.own i ct h
    exact ⟨p, hp, ⟨ho, R2.fr p ho (R.H_none h5) h3, h4⟩, h5, h6⟩⟩
end
end PD
namespace PD
open PySem PySem.Spec PyProof.Rows L2 RZ
/-! ### dict(rows), the keys whole numbers that differ -/
def rowOf {α : Type} (k : α → Int) (em : α → D) (r : α) : D := .tup [.int (k r), em r]
section
variable {α : Type} {X : Cx} {pins : List (Addr × Obj)} {σ : L2.St} {H : Hp} {s : Shared} {β : Option Addr} {F : Hp}
structure RowsAt (X : Cx) (β : Option Addr) (F : Hp) (h : Heap) (k : α → Int) (em : α → D) (rs : List α) (Tl : List Addr) (ps : List (Value × Value)) (ws : List V) (kvs : List (Key × Value)) : Prop where
  tl : Tl.length = rs.length
  pl : ps.length = rs.length
  rep : RepAll X.K β F (rs.map em) ws
  at_ : ∀ (j : Nat) (key v : Value), ps[j]? = some (key, v) → ∃ T : Addr, Tl[j]? = some T ∧ PySem.PairAt h T key v
  have_ : PySem.PairsHave (mixKind X.prog X.w) rs.length (PySem.PairRel ps) kvs
  kv : KV ((rs.map fun r => (Sum.inl (k r) : Key)).zip ws) kvs
  keys : kvs.map (·.1) = rs.map fun r => Sum.inl (k r)
theorem rows_at (I : Inv X pins σ H s) (sub : Same F H) (k : α → Int) (em : α → D) : ∀ {rs : List α} {vs : List V}, RepAll X.K β F (rs.map (rowOf k em)) vs → ∃ Tl ps ws kvs, vs = Tl.map V.ref ∧ RowsAt X β F s.heap k em rs Tl ps ws kvs
  | [], vs, h => by
    cases h
    exact ⟨[], [], [], [], rfl, rfl, rfl, .nil, fun j key v h => by simp at h, ⟨rfl, fun i key v h => by simp [PySem.PairRel] at h⟩, .nil, rfl⟩
  | r :: rs, vs, h => by
    rw [List.map_cons] at h
    cases h with
    | cons h1 h2 =>
      obtain ⟨Tl, ps, ws, kvs, e, R⟩ := rows_at I sub k em h2
      subst e
      cases h1 with
      | tup g1 g2 g3 =>
        rename_i T xs
        obtain ⟨v1, v2, rfl, g4, g5⟩ := all2 g3
        cases g4
        obtain ⟨its, rv, ht, _⟩ := I.tuple (Same.seqT sub g1)
        obtain ⟨u1, u2, rfl, r1, r2⟩ : ∃ u1 u2, its = [u1, u2] ∧ RelV (.int (k r)) u1 ∧ RelV v2 u2 := by
          cases rv with
          | cons r1 rv => cases rv with
            | cons r2 rv => cases rv; exact ⟨_, _, rfl, r1, r2⟩
        refine ⟨T :: Tl, (u1, u2) :: ps, v2 :: ws, (Sum.inl (k r), u2) :: kvs, rfl, by simp [R.tl], by simp [R.pl], .cons g5 R.rep, fun j key v hj => ?_, ⟨by simp [R.have_.1], fun i key v hi => ?_⟩, .cons ⟨rfl, r2⟩ R.kv, by simp [R.keys]⟩
        · cases j with
          | zero =>
            have e : (u1, u2) = (key, v) := by simpa using hj
            cases e
            exact ⟨T, rfl, .inl ht⟩
          | succ j => exact R.at_ j key v (by simpa using hj)
        · cases i with
          | zero =>
            have e : (u1, u2) = (key, v) := by simpa [PySem.PairRel] using hi
            cases e
            exact ⟨Sum.inl (k r), rfl, kV_is (k := Sum.inl (k r)) r1⟩
          | succ i => exact R.have_.2 i key v (by simpa [PySem.PairRel] using hi)
theorem cr_dictRows (hc : X.calm = true) (k : α → Int) (em : α → D) (rs : List α) (β : Option Addr) (F : Hp) (nd : (rs.map k).Nodup) :
    CallR X (.type "dict") (fun xs H Q => ∃ (a : Addr) (vs : List V), xs = [.ref a] ∧ SqL X.K H a vs ∧ RepAll X.K β F (rs.map (rowOf k em)) vs ∧ Same F H ∧ ∀ (p : Addr) (ws : List V), H p = none → RepAll X.K β F (rs.map em) ws → ws.length ≤ sizeLine → Q (.ref p) (upd H p (.dK ((rs.map fun r => (Sum.inl (k r) : Key)).zip ws)))) := by
  intro pins s σ H xs us Q I r h
  obtain ⟨a, vs, rfl, hs, hr, hsub, q⟩ := h
  obtain rfl := Vals.ref1 r
  obtain ⟨its, rv, hl, hz⟩ := I.list hs
  obtain ⟨Tl, ps, ws, kvs, e, R⟩ := rows_at I hsub k em hr
  subst e
  have hlen : ws.length = rs.length := by have := R.rep.length; rw [List.length_map] at this; exact this.symm
  have hits : its = Tl.map Value.ref := by
    clear hl hs hr hz q R
    induction Tl generalizing its with
    | nil => cases rv; rfl
    | cons T Tl ih =>
      cases rv with
      | cons r1 rv =>
        rw [List.map_cons, ih _ rv]
        congr 1
  subst hits
  have hz' : rs.length ≤ sizeLine := by rw [List.length_map, R.tl] at hz; exact hz
  refine PySem.call_dict_pairs (knd := mixKind X.prog X.w) (kvs := kvs) (PySem.PairArg.list a (Tl.map Value.ref).toArray (fun j => Tl.getD j 0) ps) (I.ok.hd hc) ⟨hl, ?_, fun j key v hj => ?_⟩ (by rw [R.pl]; exact R.have_) (by rw [R.pl]; exact hz') fun h' tk dd hk => ?_
  · simp [R.tl, R.pl]
  · obtain ⟨T, h1, h2⟩ := R.at_ j key v hj
    have e2 : Tl.getD j 0 = T := by rw [List.getD_eq_getElem?_getD, h1]; rfl
    show (Tl.map Value.ref).toArray[j]? = some (Value.ref (Tl.getD j 0)) ∧ PySem.PairAt s.heap (Tl.getD j 0) key v
    rw [e2]
    exact ⟨by simp [h1], h2⟩
  · have hnd : (kvs.map (·.1)).Nodup := by
      rw [R.keys]
      have : (rs.map fun r => (Sum.inl (k r) : Key)) = (rs.map k).map Sum.inl := by rw [List.map_map]; rfl
      rw [this]
      exact List.pairwise_map.mpr (List.Pairwise.imp (fun h z => h (Sum.inl.inj z)) nd)
    rw [merged_nil_of_nodup kvs hnd] at dd
    have hm : (s.heap.objs.size == sysModules) = false := beq_eq_false_iff_ne.mpr (Nat.ne_of_gt I.big)
    have hzl : ((rs.map fun r => (Sum.inl (k r) : Key)).zip ws).length ≤ sizeLine := by
      rw [List.length_zip, List.length_map]
      omega
    exact ⟨.ref s.heap.objs.size, upd H s.heap.objs.size (.dK ((rs.map fun r => (Sum.inl (k r) : Key)).zip ws)), I.laid (t' := tk) (fun b u e => hk b u (by simp) e) (Nat.le_refl _) (dk_new hzl hm R.kv dd), rfl, q _ ws (I.hok.fresh (Nat.le_refl _)) R.rep (by rw [hlen]; exact hz')⟩
end
/-- the rows of a dict by whole numbers -/
def rowsK {α : Type} (k : α → Int) (em : α → D) (rs : List α) : List (Key × D) := (rs.map fun r => (Sum.inl (k r) : Key)).zip (rs.map em)
section
variable {α : Type} {g : G} {ρ : Rho} {B B1 B2 : Bag} {a b : Expr} {pos : Pos}
theorem k_dictRows (k : α → Int) (em : α → D) (rs : List α) (nd : (rs.map k).Nodup) : CallD g (.type "dict") [.lst (rs.map (rowOf k em))] (.o (.m (rowsK k em rs))) := by
  intro X hX
  refine ⟨fun xs H Q => ∃ (β : Option Addr) (F : Hp) (a : Addr) (vs : List V), xs = [.ref a] ∧ SqL X.K H a vs ∧ RepAll X.K β F (rs.map (rowOf k em)) vs ∧ Same F H ∧ ∀ (p : Addr) (ws : List V), H p = none → RepAll X.K β F (rs.map em) ws → ws.length ≤ sizeLine → Q (.ref p) (upd H p (.dK ((rs.map fun r => (Sum.inl (k r) : Key)).zip ws))), ?_, fun c ρ B σ H F vs Q R hvs q => ?_⟩
  · intro pins s σ H xs us Q I r ⟨β, F, h⟩
    exact cr_dictRows hX.calm k em rs β F nd pins s σ H xs us Q I r h
  · obtain ⟨v, rfl, h1⟩ := all1 hvs
    cases h1 with
    | lst u1 u2 u3 =>
      refine ⟨c.β, F, _, _, rfl, SqL.sub R.sub u1, by rw [hX.hK]; exact u3, R.sub, fun p ws np hw hl => ?_⟩
      rw [hX.hK] at hw
      refine q _ _ F (R.newO np) (Same.refl F) ⟨p, rfl, OwnAt.new' R np ⟨rs.map fun r => Sum.inl (k r), rs.map em, ws, rfl, rfl, ?_, ?_, hw⟩⟩ (R.apart np)
      · have := hw.length
        rw [List.length_map] at this ⊢
        exact this
      · have := hw.length
        rw [List.length_map] at this ⊢
        omega
theorem fst_zip {α β : Type} : ∀ {ks : List α} {ds : List β}, ks.length = ds.length → (ks.zip ds).map Prod.fst = ks
  | [], [], _ => rfl
  | k :: ks, d :: ds, h => by rw [List.zip_cons_cons, List.map_cons, fst_zip (by simpa using h)]
  | [], _ :: _, h => nomatch h
  | _ :: _, [], h => nomatch h
theorem snd_zip {α β : Type} : ∀ {ks : List α} {ds : List β}, ks.length = ds.length → (ks.zip ds).map Prod.snd = ds
  | [], [], _ => rfl
  | k :: ks, d :: ds, h => by rw [List.zip_cons_cons, List.map_cons, snd_zip (by simpa using h)]
  | [], _ :: _, h => nomatch h
  | _ :: _, [], h => nomatch h
theorem rep_rows {K : PySem.W.Frag} {β : Option Addr} {F : Hp} {k : α → Int} {em : α → D} {rs : List α} {v : V} (h : Rep K β F (.dct (rowsK k em rs)) v) : ∃ a ws, v = .ref a ∧ F a = some (.dK ((rs.map fun r => (Sum.inl (k r) : Key)).zip ws)) ∧ RepAll K β F (rs.map em) ws := by
  generalize hd : (D.dct (rowsK k em rs)) = d at h
  cases h with
  | dct h1 h2 h3 h4 h5 h6 =>
    rename_i a kvs ks ds kws vs
    cases hd
    have hl := h6.length
    have e1 : ks = rs.map fun r => Sum.inl (k r) := by
      have z := congrArg (List.map Prod.fst) h3
      unfold rowsK at z
      rw [fst_zip (by rw [List.length_map, List.length_map]), fst_zip (by omega)] at z
      exact z.symm
    have e2 : ds = rs.map em := by
      have z := congrArg (List.map Prod.snd) h3
      unfold rowsK at z
      rw [snd_zip (by rw [List.length_map, List.length_map]), snd_zip (by omega)] at z
      exact z.symm
    subst e1 e2 h4
    exact ⟨a, vs, rfl, h1, h6⟩
  | _ => cases hd
theorem val_rows {K : PySem.W.Frag} {β : Option Addr} {F : Hp} {k : α → Int} {em : α → D} {i : Int} : ∀ {rs : List α} {ws : List V}, RepAll K β F (rs.map em) ws →
    (∃ r ∈ rs, k r = i ∧ ∃ w, valV ((rs.map fun r => (Sum.inl (k r) : Key)).zip ws) (Sum.inl i) = some w ∧ Rep K β F (em r) w) ∨ (i ∉ rs.map k ∧ valV ((rs.map fun r => (Sum.inl (k r) : Key)).zip ws) (Sum.inl i) = none)
  | [], ws, h => .inr ⟨by simp, by cases h; rfl⟩
  | r :: rs, ws, h => by
    rw [List.map_cons] at h
    cases h with
    | cons h1 h2 =>
      rename_i w ws
      by_cases e : k r = i
      · refine .inl ⟨r, List.mem_cons_self, e, w, ?_, h1⟩
        rw [List.map_cons, List.zip_cons_cons, e]
        unfold valV
        rw [List.find?_cons_of_pos (by simp)]
        rfl
      · have ec : valV ((((r :: rs).map fun r => (Sum.inl (k r) : Key))).zip (w :: ws)) (Sum.inl i) = valV ((rs.map fun r => (Sum.inl (k r) : Key)).zip ws) (Sum.inl i) := by
          rw [List.map_cons, List.zip_cons_cons]
          unfold valV
          rw [List.find?_cons_of_neg (by simp [e])]
        rw [ec]
        rcases val_rows (i := i) h2 with ⟨q, hq, e1, e2⟩ | ⟨h3, h4⟩
        · exact .inl ⟨q, List.mem_cons_of_mem _ hq, e1, e2⟩
        · exact .inr ⟨by rw [List.map_cons]; exact fun z => (List.mem_cons.mp z).elim (fun z => e z.symm) h3, h4⟩
theorem op_inDct {X : Cx} (hu : X.A.units + 64 < cLine) : OpR X (compareOp .In) (fun y x H Q => ∃ a o, x = .ref a ∧ DGet H a y o ∧ Q (.bl o.isSome) H) := by
  intro pins s σ H x y v u Q I rx ry h
  obtain ⟨a, o, rfl, g, q⟩ := h
  cases ry
  exact d_in (by omega) I g rx fun s' I' => ⟨.bl _, H, I', rfl, q⟩
theorem c_inRows {k : α → Int} {em : α → D} {rs : List α} {i : Int} : BinD g (compareOp .In) (.int i) (.dct (rowsK k em rs)) (.d (.bl (decide (i ∈ rs.map k)))) := fun X hX => ⟨_, op_inDct hX.room.units, fun c ρ B σ H F v w Q R h1 h2 q => by
  cases h1
  obtain ⟨a, ws, rfl, hF, hr⟩ := rep_rows h2
  refine ⟨a, _, rfl, DGet.k (k := Sum.inl i) (R.sub _ _ hF), ?_⟩
  rcases val_rows (k := k) (i := i) hr with ⟨r, hm, e, w, h3, _⟩ | ⟨h3, h4⟩
  · rw [h3, show (some w).isSome = decide (i ∈ rs.map k) by rw [decide_eq_true (List.mem_map.mpr ⟨r, hm, e⟩)]; rfl]
    exact q _ H F R (Same.refl F) (.bl _) apart_d
  · rw [h4, show (none : Option V).isSome = decide (i ∈ rs.map k) by rw [decide_eq_false h3]; rfl]
    exact q _ H F R (Same.refl F) (.bl _) apart_d⟩
theorem ev_ixRows {k : α → Int} {em : α → D} {rs : List α} {r : α} (nd : (rs.map k).Nodup) (ha : Ev g a ρ B (.dct (rowsK k em rs)) B1) (hb : Ev g b ρ B1 (.int (k r)) B2) (hr : r ∈ rs) (hs : PlainIxE b := by intro _ _; rfl) : Ev g (.Subscript a b pos) ρ B (em r) B2 := by
  refine ⟨fun X hX => PE.imp (pe_dget (by have := hX.room.units; omega) (ha.h X hX) (hb.h X hX) hs) fun σ H Q ⟨c, F, R, q⟩ => two R fun v w H2 F2 R2 e2 h1 h2 => ?_⟩
  cases h2
  obtain ⟨a, ws, rfl, hF, hrep⟩ := rep_rows h1
  rcases val_rows (k := k) (i := k r) hrep with ⟨t, hm, e, w, h3, h4⟩ | ⟨h3, h4⟩
  · have et : t = r := by
      obtain ⟨i, hi, e1⟩ := List.mem_iff_getElem.mp hm
      obtain ⟨j, hj, e2⟩ := List.mem_iff_getElem.mp hr
      have hij : i = j := by
        have hx : (rs.map k)[i]'(by simpa using hi) = (rs.map k)[j]'(by simpa using hj) := by simp [e1, e2, e]
        exact (List.getElem_inj nd).mp hx
      subst hij
      rw [← e1, ← e2]
    subst et
    exact ⟨a, w, rfl, (by rw [← h3]; exact DGet.k (k := Sum.inl (k t)) (R2.sub _ _ hF)), q w H2 F2 R2 e2 h4 apart_d⟩
  · exact absurd (List.mem_map.mpr ⟨r, hr, rfl⟩) h3
end
end PD
namespace PD
open PySem PySem.Spec PyProof.Rows L2 RZ
open PySem.Sem (wp)
open PySem.AutoSeq1 (wpAny_loadPart')
/-! ### enumerate over a tuple -/
theorem enumT_new (l : Addr) (items : Array Value) (n : Nat) (dct : Option Addr) (sl : Array (Option Value)) :
    Meets (Builtin.«enumerate.__new__» ⟨[.type "enumerate", .ref l], []⟩) (fun _ R s => s.heap.get? l = some { cls := .type "tuple", dict := dct, data := .seq items n, slots := sl } ∧
      R (.ok (.ret (.ref (s.heap.push { cls := .type "tuple_iterator", data := .fields #[.ref l, .int 0 0] }).objs.size)))
        { s with heap := (s.heap.push { cls := .type "tuple_iterator", data := .fields #[.ref l, .int 0 0] }).push { cls := .type "enumerate", data := .fields #[.none, .bool false, .ref s.heap.objs.size, rawInt 0, .none, .none] } }) :=
  .of_wp fun prog w A R s h => by
    obtain ⟨hp, gg, d, tk, os⟩ := s; obtain ⟨hl, h⟩ := h
    have hsub := sub_enumerate
    have hT : Heap.IsTuple (Shared.heap ⟨hp, gg, d, tk, os⟩) l items := ⟨_, hl, rfl, n, rfl⟩
    wp_walk using wpAny_loadPart' hl
    refine wpAny_stack_any fun st => wpAny_pure ?_
    split
    · rename_i c _ _ _ _ _
      cases (c == Value.type "enumerate")
      · wp_walk using wpAny_loadPart' hl, wpAny_pyIter_tuple hT
        exact ⟨_, rfl, h⟩
      · wp_walk using wpAny_loadPart' hl, wpAny_pyIter_tuple hT
        exact ⟨_, rfl, h⟩
    · wp_walk using wpAny_loadPart' hl, wpAny_pyIter_tuple hT
      exact ⟨_, rfl, h⟩
theorem enumT_call {prog : Program} {w : World} {A : Around} {E : Value → Shared → Prop} {s : Shared} {l : Addr} {items : Array Value} {Q : Value → Shared → Prop} (hL : s.heap.IsTuple l items)
    (h : ∀ h', IsEnum h' (s.heap.objs.size + 1) s.heap.objs.size 0 .none → h'.IsTupleIter s.heap.objs.size l 0 → h'.objs.size = s.heap.objs.size + 2 →
      (∀ b o, s.heap.get? b = some o → h'.get? b = some o) → Q (.ref (s.heap.objs.size + 1)) { s with heap := h' }) :
    wpAny (model prog w) A (call (.type "enumerate") [.ref l]) Q E s := by
  obtain ⟨⟨c, dct, dt, sl⟩, hl, hc, n, hd⟩ := hL
  replace hc : c = .type "tuple" := hc
  replace hd : dt = .seq items n := hd
  subst hc hd
  refine callType_new F.called_enumerate (by decide) (F.typeCall_enumerate_1 _) (F.newCall_enumerate_1 _) (fun obj => F.args_object_init_2 obj _) F.entry_enumerate_new
    (enumT_new l items n dct sl) ⟨hl, ?_⟩
  have hz : (s.heap.push { cls := .type "tuple_iterator", data := .fields #[.ref l, .int 0 0] }).objs.size = s.heap.objs.size + 1 := Heap.size_push ..
  show _ ∧ _
  rw [hz]
  have he : IsEnum ((s.heap.push { cls := .type "tuple_iterator", data := .fields #[.ref l, .int 0 0] }).push
      { cls := .type "enumerate", data := .fields #[.none, .bool false, .ref s.heap.objs.size, rawInt 0, .none, .none] }) (s.heap.objs.size + 1) s.heap.objs.size 0 .none := by
    have := Heap.get?_push_size (s.heap.push { cls := .type "tuple_iterator", data := .fields #[.ref l, .int 0 0] })
      (o := { cls := .type "enumerate", data := .fields #[.none, .bool false, .ref s.heap.objs.size, rawInt 0, .none, .none] }) rfl
    rw [hz] at this; exact this
  refine ⟨⟨_, he, rfl⟩, h _ he ⟨_, Heap.get?_push_of_some _ (Heap.get?_push_size _ rfl), rfl, rfl⟩ (by rw [Heap.size_push, hz]) fun b o x => Heap.get?_push_of_some _ (Heap.get?_push_of_some _ x)⟩
def IteT (K : PySem.W.Frag) (a : Addr) : It :=
  ⟨fun i H => ∃ (xs : List V) (x : V), SqT K H a xs ∧ xs[i]? = some x, fun i H v H' => ∃ T x, v = .ref T ∧ H T = none ∧ H' = upd H T (.tup [.int (i : Nat), x]) ∧ ∀ xs, SqT K H a xs → xs[i]? = some x, fun i H => ∃ xs : List V, SqT K H a xs ∧ xs.length = i⟩
theorem enumT_turn {P : Program} {w : World} {K : PySem.W.Frag} {elts : List Expr} {kk : Nat} {tpos : Pos} (a e it : Addr) (ea : e ≠ a) (ia : a ≠ it) :
    Turn P w K (.Tuple elts kk tpos) (IteT K a) [e, it] e (fun i h => (∃ old, IsEnum h e it ((i : Nat) : Int) old) ∧ h.IsTupleIter it a i ∧ e ≠ it) where
  mem := by simp
  obj := fun i h st b hb => by
    obtain ⟨⟨old, he⟩, ⟨o, ho, hc, hd⟩, _⟩ := st
    have e' : b = e ∨ b = it := by simpa using hb
    rcases e' with z | z
    · rw [z]; exact ⟨_, he, fun v q => nomatch q⟩
    · rw [z]; exact ⟨o, ho, fun v q => by rw [hd] at q; cases q⟩
  keep := fun i h h' st k => let ⟨⟨old, he⟩, hi, hne⟩ := st; ⟨⟨old, k e (by simp) _ he⟩, hi.at fun o q => k it (by simp) o q, hne⟩
  item := by
    intro X hP hw hK hc i pins s σ H E I hf st hg
    subst hP hw hK
    obtain ⟨⟨old, he⟩, hit, hne⟩ := st
    obtain ⟨xs, x, hq, hx⟩ := hg
    obtain ⟨its, rv, p, hz⟩ := I.tuple hq
    obtain ⟨u, hu, ru⟩ := rv.get hx
    have hel : e < s.heap.objs.size := Heap.lt_size he
    have hil : it < s.heap.objs.size := by obtain ⟨_, q, _⟩ := hit; exact Heap.lt_size q
    have hlt : i < its.toArray.size := by
      have := (List.getElem?_eq_some_iff.mp hu).1
      simpa using this
    refine wpAny_pyNext_enum_itemD (Draws.tuple (A := X.A.in1) (I.ok.hd hc) it a ia its.toArray) he ⟨hit, p⟩ hlt hne (by simp [hne, ea]) fun x' h' tk hPx ho hst' hT hsz hk => ?_
    have hxu : x' = u := by
      have h1 : its.toArray[i]? = some u := by simpa using hu
      rw [h1] at hPx
      exact (Option.some.inj hPx).symm
    subst hxu
    refine ⟨_, rfl, wpAny_letOwnedTupleGo_enum (s := { s with heap := h', toks := tk + 1 }) ho fun h'' he' sb => ?_⟩
    have hT2 : h''.get? s.heap.objs.size = some { cls := .type "tuple", data := .seq #[.int i tk, x'] } := (sb.2 _ (Nat.ne_of_gt hel)).trans hT
    have new : ObjOk X.prog X.w (upd H s.heap.objs.size (.tup [.int (i : Nat), x])) h'' s.heap.objs.size (.tup [.int (i : Nat), x]) :=
      ⟨by show 2 ≤ sizeLine; decide, [.int i tk, x'], .cons ⟨_, rfl⟩ (.cons ru .nil), ⟨_, hT2, rfl, _, rfl⟩⟩
    have I1 : Inv X pins σ (upd H s.heap.objs.size (.tup [.int (i : Nat), x])) { s with heap := h'', toks := tk + 1 } :=
      I.turnedNew (ch := [e, it]) (fun b ob hb q => (sb.2 b (fun z => hb (by simp [z]))).trans (hk b ob (fun z => hb (by simp [z])) (fun z => hb (by simp [z])) q)) hf (Nat.le_refl _) new
    refine ⟨.ref s.heap.objs.size, _, I1, rfl, ⟨_, x, rfl, I.hok.fresh (Nat.le_refl _), rfl, fun ys hy => by rw [I.tuple_inj hy hq]; exact hx⟩, ⟨⟨x', ?_⟩, hst'.1.at fun o q => (sb.2 it (Ne.symm hne)).trans q, hne⟩, fun b hb => ?_⟩
    · have e1 : ((i + 1 : Nat) : Int) = (i : Int) + 1 := by omega
      rw [e1]; exact he'
    · have hb' : b < s.heap.objs.size := by
        have e' : b = e ∨ b = it := by simpa using hb
        rcases e' with z | z
        · rw [z]; exact hel
        · rw [z]; exact hil
      rw [upd_ne (Nat.ne_of_lt hb')]
      exact (hf b hb).1
  done := by
    intro X hP hw hK hc i pins s σ H E I hf st hg
    subst hP hw hK
    obtain ⟨⟨old, he⟩, hit, hne⟩ := st
    obtain ⟨xs, hq, hx⟩ := hg
    obtain ⟨its, rv, p, hz⟩ := I.tuple hq
    obtain ⟨f0, f1, f2, f3, f4, f5⟩ := hf it (by simp)
    have hl := rv.length
    have hsz : i = its.toArray.size := by simp; omega
    subst hsz
    exact wpAny_pyNext_enum_endD (Draws.tuple (A := X.A.in1) (I.ok.hd hc) it a ia its.toArray) he ⟨hit, p⟩ fun h' eb => ⟨rfl, I.turned (t' := s.toks) (fun b o hb q => eb b o hb q) f0 f1 f3 f4 f5⟩
  self := fun A i s Q E st h => let ⟨⟨_, he⟩, _⟩ := st; wpAny_pyIter_enum he h
def iEnumT (K : PySem.W.Frag) (ta : TA) : TI := fun σ H R => ta σ H fun vs H1 => ∃ a xs, vs = [.ref a] ∧ SqT K H1 a xs ∧ R (IteT K a) H1
theorem pi_enumT {X : Cx} {e : Expr} {ta : TA} {p pos tpos : Pos} {elts : List Expr} {kk : Nat} (hg : Gl X "enumerate") (hm : X.mg "enumerate" = none) (ha : PA X [e] ta) (hs : starEach [e] X.env = [(false, eval e X.env)] := by rfl) :
    PI X (.Tuple elts kk tpos) (.Call (.Name "enumerate" p) [e] [] pos) (iEnumT X.K ta) := by
  refine ⟨fun pins s σ H R I h => ?_⟩
  refine Call_ (ld_blt I hg hm boot_enumerate (PyProof.Rows.callWith_type1 (thn (ha.run pos pins s σ H _ I h) fun us s1 ⟨vs, H1, I1, r1, q1⟩ => ?_) hs rfl))
  obtain ⟨a, xs, ex, hq, q⟩ := q1
  subst ex
  cases r1 with
  | cons r rr =>
    cases rr
    cases r
    obtain ⟨its, rv, p', hz⟩ := I1.tuple hq
    have hal : a < s1.heap.objs.size := by obtain ⟨_, z, _⟩ := p'; exact Heap.lt_size z
    refine enumT_call p' fun h' he hit hsz hk => wpAny_pyIter_enum he ?_
    have I2 : Inv X pins σ H1 { s1 with heap := h' } := I1.kept (t' := s1.toks) hk
    refine ⟨s1.heap.objs.size + 1, [s1.heap.objs.size + 1, s1.heap.objs.size], _, _, H1, rfl, I2, enumT_turn a (s1.heap.objs.size + 1) s1.heap.objs.size (Nat.ne_of_gt (Nat.lt_succ_of_lt hal)) (Nat.ne_of_lt hal), ⟨⟨.none, he⟩, hit, Nat.succ_ne_self _⟩, fun b hb => ?_, q⟩
    have e' : b = s1.heap.objs.size + 1 ∨ b = s1.heap.objs.size := by simpa using hb
    have hle : s1.heap.objs.size ≤ b := by
      rcases e' with z | z
      · rw [z]; exact Nat.le_add_right _ _
      · rw [z]; exact Nat.le_refl _
    exact I1.fpOk hle (I1.hok.fresh hle)
theorem walkD_enumT {K : PySem.W.Frag} {c : C0} {ds : List D} {F1 : Hp} {a : Addr} {vs : List V} (h : SqT K F1 a vs) (hr : RepAll K c.β F1 ds vs) : WalkD K c.β (IteT K a) (enD ds) F1 :=
  ⟨fun i H hi e => by
    have hl := hr.length
    rw [enD_length] at hi
    exact ⟨vs, vs[i]'(by omega), Same.seqT e h, by simp [show i < vs.length by omega]⟩, fun H e => ⟨vs, Same.seqT e h, by rw [enD_length, hr.length]⟩, fun i H x H' hi e y => by
    obtain ⟨T, x1, rfl, nT, rfl, f1⟩ := y
    obtain ⟨d1, hd1, r1⟩ := hr.get' (f1 vs (Same.seqT e h))
    exact ⟨_, enD_get hd1, .inr ⟨T, _, _, rfl, nT, rfl, len2, rfl, .cons (.int _) (.cons r1 .nil)⟩⟩⟩
theorem it_enumT {g : G} {ρ : Rho} {B B1 : Bag} {a : Expr} {elts : List Expr} {kk : Nat} {p pos tpos : Pos} {xs : List D} (hg : Glb g "enumerate") (hm : g.T.mg "enumerate" = none) (ha : Ev g a ρ B (.tup xs) B1) (hs : ∀ env : Env, starEach [a] env = [(false, eval a env)] := by intro _; rfl) : ItD g (.Tuple elts kk tpos) (.Call (.Name "enumerate" p) [a] [] pos) ρ B (enD xs) B1 := by
  refine ⟨fun X hX => ?_⟩
  refine ⟨_, pi_enumT (hg.at hX) (by rw [hX.hm]; exact hm) ((evs_cons ha evs_nil hs).h X hX) (hs X.env), fun c σ H F Re R q => ⟨c, F, R, fun vs H' F' R' e' h => ?_⟩⟩
  obtain ⟨v, rfl, h3⟩ := all1 h
  cases h3 with
  | tup u1 u2 u3 => exact ⟨_, _, rfl, by rw [hX.hK]; exact Same.seqT R'.sub u1, q _ H' F' R' e' (by rw [hX.hK]; exact walkD_enumT u1 u3)⟩
end PD
namespace PD
open PySem PySem.Spec PyProof.Rows L2
theorem c_notB {g : G} {s t : Bool} : BinD g (compareOp .IsNot) (.bl s) (.bl t) (.d (.bl (!decide (s = t)))) := binD_v (fun X _ => op_notBl (X := X)) _ _ (.bl _) inv_bl inv_bl (fun _ _ _ => .bl _) fun X H Q _ q => ⟨_, _, rfl, rfl, q⟩
theorem c_isB {g : G} {s t : Bool} : BinD g (compareOp .Is) (.bl s) (.bl t) (.d (.bl (decide (s = t)))) := binD_v (fun X _ => op_isBl (X := X)) _ _ (.bl _) inv_bl inv_bl (fun _ _ _ => .bl _) fun X H Q _ q => ⟨_, _, rfl, rfl, q⟩
end PD
namespace PD
open PySem PySem.Spec PyProof.Rows L2 RZ
open PySem.Sem (wp)
/-! ### own things: read as data in an expression, written by an index, a dict updated -/
def foldK (kvs more : List (Key × V)) : List (Key × V) := more.foldl (fun acc kv => putK acc kv.1 kv.2) kvs
theorem KV.merge : ∀ {more : List (Key × V)} {ws : List (Key × Value)} {kvs : List (Key × V)} {vs : List (Key × Value)}, KV more ws → KV kvs vs → KV (foldK kvs more) (merged vs ws)
  | _, _, _, _, .nil, r => r
  | p :: ms, q :: ns, kvs, vs, .cons h t, r => by
    have h1 : p.1 = q.1 := h.1
    have h2 : RelV p.2 q.2 := h.2
    have r2 : KV (putK kvs p.1 p.2) (stored vs q.1 q.2) := by
      rw [← h1]
      exact KV.put r p.1 h2
    have t2 : KV ms ns := t
    have z := KV.merge t2 r2
    exact z
theorem foldK_len : ∀ (more kvs : List (Key × V)), (foldK kvs more).length ≤ kvs.length + more.length
  | [], _ => by unfold foldK; simp
  | kv :: more, kvs => by
    have h := foldK_len more (putK kvs kv.1 kv.2)
    have h2 := length_putK kvs kv.1 kv.2
    show (foldK (putK kvs kv.1 kv.2) more).length ≤ _
    rw [List.length_cons]
    omega
theorem foldK_keys : ∀ (js ks : List Int), foldK (keysV ks) (keysV js) = keysV (js.foldl insK ks)
  | [], ks => rfl
  | j :: js, ks => by
    have h := foldK_keys js (insK ks j)
    show foldK (putK (keysV ks) (Sum.inl j) (.bl true)) (keysV js) = _
    rw [putK_keys]
    exact h
def rUpdK : V → List V → Hp → VK → Prop := fun x vs H Q => ∃ (a b : Addr) (kvs more : List (Key × V)), x = .ref a ∧ vs = [.ref b] ∧ a ≠ b ∧ H a = some (.dK kvs) ∧ H b = some (.dK more) ∧ kvs.length + more.length ≤ sizeLine ∧ Q .non (upd H a (.dK (foldK kvs more)))
theorem mt_update {X : Cx} : MtR X "dict.update" rUpdK := by
  intro pins s σ H x vs v us Q I rx rv h
  obtain ⟨a, b, kvs, more, rfl, rfl, hab, ha, hb, hz, q⟩ := h
  cases rx
  obtain ⟨u, rfl, ru⟩ := rv.one
  cases ru
  obtain ⟨z1, d1, vs1, rel1, dd1⟩ := dk_of I.hok ha
  obtain ⟨z2, d2, vs2, rel2, dd2⟩ := dk_of I.hok hb
  have l1 := KV.length rel1
  have l2 := KV.length rel2
  have hl : (foldK kvs more).length ≤ sizeLine := Nat.le_trans (foldK_len more kvs) hz
  refine call_meetsIn PySem.F.slot_dict_update dd1.typeIs PySem.F.entry_dict_update (PySem.F.args_dict_update_2 _ _) (meets_dict_update (mixKind X.prog X.w) a b hab d2) ⟨vs1, vs2, dd1, dd2, by omega, fun h' dd' _ hs => ?_⟩
  have he : ∃ q, h'.get? a = some q := let ⟨q, _, _, hq, _⟩ := dd'; ⟨q, hq⟩
  exact ⟨.non, _, d_write I (by rw [ha]; exact True.intro) hs he (dk_new hl d1 (KV.merge rel2 rel1) dd'), rfl, q⟩
section
variable {g : G} {ρ : Rho} {B B' B1 B2 B3 : Bag} {e : Expr} {k : Bool} {pos p apos cpos epos : Pos} {n : Str} {E : En}
/-- x.update(e), x an own dict of marks -/
theorem ex_update {i : Nat} {ks js : List Int} (hN : g.N[i]? = some n) (hv : Vis g.sc n) (hi : ρ[i]? = some (.o (.m (keysD ks)))) (he : Ev g e ρ B (.dct (keysD js)) B1) (h : E.nx (ρ.set i (.o (.m (keysD (js.foldl insK ks))))) B1) (hl : ks.length + js.length ≤ 1000000)
    (hd : (n == ("__debug__" : Str)) = false := by decide) (hcd : (n == ("__classdict__" : Str)) = false := by decide)
    (hbase : ∀ env : Env, attributeBase (.Name n p) "update" env (eval (.Name n p) env) = eval (.Name n p) env := by intro _; rfl)
    (hfew : ∀ env : Env, ((backTo cpos (starEach (e :: []) env)).all (fun x => !x.1) && (backToKw cpos (keywordEach [] env)).all (fun x => x.1.isSome)
      && decide ((e :: []).length + ([] : List Keyword).length + (if ([] : List Keyword).isEmpty then 0 else 1) < 30)) = true := by intro _; rfl)
    (hline : (apos.endLine == cpos.line) = true := by rfl) (hs : ∀ env : Env, starEach (e :: []) env = (false, eval e env) :: starEach [] env := by intro _; rfl) (hplain : ∀ env : Env, (backTo cpos (starEach [] env)).any (·.1) = false := by intro _; rfl)
    (hs1 : ∀ env : Env, swapsWith (.Call (.Attribute (.Name n p) "update" apos) [e] [] cpos) none epos.line env = pure false := by intro _; rfl) : Ex g (.Expr (.Call (.Attribute (.Name n p) "update" apos) [e] [] cpos) epos) ρ B E := by
  refine ⟨fun X hX => ?_⟩
  have pv : PE X (.Name n p) (tVar i) := pe_var (by rw [hX.hN]; exact hN) (by rw [hX.hs]; exact hv) hd hcd
  have pa : PA X [e] (tCons (tEv g.T.K ρ B (.d (.dct (keysD js))) B1) tNil) := pa_cons (he.h X hX) pa_nil (hs X.env)
  refine PS.imp (ps_expr (pe_bm PySem.F.plainAttrs_dict PySem.F.slot_dict_update PySem.F.type_dict_update mt_update pv pa (hbase X.env) (hfew X.env) hline (hs X.env) (hplain X.env)) (hs1 X.env)) fun D σ H ⟨c, F, R, q1, _⟩ => ?_
  obtain ⟨q, h1, ⟨ho, h2, h3⟩, h4, h5⟩ := R.own i _ hi
  obtain ⟨rfl, hz⟩ := ct_keys_inv h3
  have hz' : (sizeLine : Nat) = 16777216 := sizeLine_eq
  refine ⟨.ref q, h1, ?_, c, F, R, fun v H1 F1 R1 e1 hv _ => ?_⟩
  · exact .inr (.inr (.inl ⟨rfl, .inl ⟨_, h2⟩⟩))
  obtain ⟨q', g1, ⟨ho', g2, g3⟩, g4, g5⟩ := R1.own i _ hi
  rw [h1] at g1
  cases g1
  obtain ⟨rfl, gz⟩ := ct_keys_inv g3
  obtain ⟨b, rfl, hb, bz⟩ := rep_keys_inv hv
  have hab : q ≠ b := fun z => by rw [z, hb] at g5; cases g5
  have hlen : (js.foldl insK ks).length ≤ sizeLine := by have := insK_le js ks; omega
  refine ⟨q, b, keysV ks, keysV js, rfl, rfl, hab, g2, R1.sub _ _ hb, by rw [keysL, keysL]; omega, ?_⟩
  rw [foldK_keys]
  exact q1 _ B1 σ _ F1 (R1.wrOwn (ct' := .m (keysD (js.foldl insK ks))) hi h1 (ct_keys hlen)) e1 h
theorem evr_dict0 : EvR g (.Dict [] [] pos) ρ B (.o (.m (keysD []))) B :=
  ⟨fun X hX => PE.imp pe_dnewK fun σ H Q ⟨c, F, R, q⟩ => fun p np => q _ _ F (R.newO np) (Same.refl F) ⟨p, rfl, OwnAt.new' R np (ct_keys (ks := []) (Nat.zero_le _))⟩ (R.apart np)⟩
theorem op_notInDct {X : Cx} (hu : X.A.units + 64 < cLine) : OpR X (compareOp .NotIn) (fun y x H Q => ∃ a o, x = .ref a ∧ DGet H a y o ∧ Q (.bl (!o.isSome)) H) := by
  intro pins s σ H x y v u Q I rx ry h
  obtain ⟨a, o, rfl, g, q⟩ := h
  cases ry
  exact d_notIn (by omega) I g rx fun s' I' => ⟨.bl _, H, I', rfl, q⟩
theorem valV_keys (ks : List Int) (k : Int) : (valV (keysV ks) (Sum.inl k)).isSome = decide (k ∈ ks) := by
  rw [← keysV_any, valV_any]
theorem c_notInKeys {ks : List Int} {i : Int} : BinD g (compareOp .NotIn) (.int i) (.dct (keysD ks)) (.d (.bl (!decide (i ∈ ks)))) := fun X hX => ⟨_, op_notInDct hX.room.units, fun c ρ B σ H F v w Q R h1 h2 q => by
  cases h1
  obtain ⟨a, rfl, hF, hz⟩ := rep_keys_inv h2
  refine ⟨a, _, rfl, DGet.k (k := Sum.inl i) (R.sub _ _ hF), ?_⟩
  rw [valV_keys]
  exact q _ H F R (Same.refl F) (.bl _) apart_d⟩
theorem Rel.unborrow {K : PySem.W.Frag} {c : C0} {σ : L2.St} {H F F1 F2 H' : Hp} (R : Rel K c ρ B σ H F) (e1 : Same F F1) (R2 : Rel K ⟨c.β, H, F1⟩ (frz ρ) B' σ H' F2) (e2 : Same F1 F2) : Rel K c ρ B' σ H' F := by
  refine ⟨R.len, fun b o hb h => R2.fr b o hb (R.fr b o hb h), R.gr, R.dj, fun b o h => R2.sub b o (e2 b o (e1 b o h)), fun a h => ⟨(R2.bag a h).1, (R.bag a h).2⟩, R.dat, fun i ct h => ?_, R.sep⟩
  obtain ⟨p, hp, ⟨ho, h3, h4⟩, h5, h6⟩ := R.own i ct h
  exact ⟨p, hp, ⟨ho, R2.fr p ho (R.H_none h5) h3, h4⟩, h5, h6⟩
/-- an own thing read for a number -/
theorem ev_borrowI {x : Int} (h : Ev g e (frz ρ) B (.int x) B') : Ev g e ρ B (.int x) B' :=
  ⟨fun X hX => PE.imp (h.h X hX) fun σ H Q ⟨c, F, R, q⟩ => by
    obtain ⟨F1, e1, R1⟩ := R.borrow
    refine ⟨_, F1, R1, fun v H' F2 R2 e2 hv _ => q v H' F (R.unborrow e1 R2 e2) (Same.refl F) ?_ apart_d⟩
    have hv' : v = .int x := inv_int _ _ _ _ hv
    rw [hv']
    exact .int x⟩
theorem ev_borrowB {x : Bool} (h : Ev g e (frz ρ) B (.bl x) B') : Ev g e ρ B (.bl x) B' :=
  ⟨fun X hX => PE.imp (h.h X hX) fun σ H Q ⟨c, F, R, q⟩ => by
    obtain ⟨F1, e1, R1⟩ := R.borrow
    refine ⟨_, F1, R1, fun v H' F2 R2 e2 hv _ => q v H' F (R.unborrow e1 R2 e2) (Same.refl F) ?_ apart_d⟩
    have hv' : v = .bl x := inv_bl _ _ _ _ hv
    rw [hv']
    exact .bl x⟩
/-- x[k] = e, x an own list -/
theorem ex_setIx {ix : Expr} {i kk : Nat} {ds : List D} {y : D} {ps po : Pos} (hN : g.N[i]? = some n) (hv : Vis g.sc n) (hi : ρ[i]? = some (.o (.l ds))) (he : Ev g e ρ B y B1) (hk : Ev g ix ρ B1 (nD kk) B2) (hlt : kk < ds.length) (h : E.nx (ρ.set i (.o (.l (ds.set kk y)))) B2)
    (hd : (n == ("__debug__" : Str)) = false := by decide) (hcd : (n == ("__classdict__" : Str)) = false := by decide)
    (ha : ∀ (env : Env) (v : Value), assign (.Subscript (.Name n po) ix ps) env v = (do
      let ov ← holding [v] (eval (.Name n po) env)
      let iv ← holding [v, ov] (eval ix env)
      standAt ps
      holding [v, ov, iv] (setItem ov iv v)
      release [v, ov, iv] []) := by intro _ _; rfl)
    (hs : ∀ env : Env, swapsWithSole [.Subscript (.Name n po) ix ps] e pos.line env = pure false := by intro _; rfl) (hw : ∀ env : Env, swappedStores [.Subscript (.Name n po) ix ps] e env = pure none := by intro _; rfl)
    (h1 : ∀ env : Env, (assignEach [.Subscript (.Name n po) ix ps] env).map (·.2) = [assign (.Subscript (.Name n po) ix ps) env] := by intro _; rfl) : Ex g (.Assign [.Subscript (.Name n po) ix ps] e pos) ρ B E := by
  refine ⟨fun X hX => ?_⟩
  have pv : PE X (.Name n po) (tVar i) := pe_var (by rw [hX.hN]; exact hN) (by rw [hX.hs]; exact hv) hd hcd
  refine PS.imp (ps_asg (he.h X hX) (pg_sub pv (hk.h X hX) set_list (ha X.env)) (hs X.env) (hw X.env) (h1 X.env)) fun D σ H ⟨c, F, R, q1, _⟩ => ⟨c, F, R, fun v1 H1 F1 R1 e1 hv _ => ?_⟩
  obtain ⟨q, g1, ⟨ho, g2, vs, rfl, gz, gr⟩, g4, g5⟩ := R1.own i _ hi
  refine ⟨.ref q, g1, c, F1, R1, fun v3 H3 F3 R3 e3 hv3 _ => ?_⟩
  cases hv3
  obtain ⟨q', k1, ⟨ho', k2, vs', rfl, kz, kr⟩, k4, k5⟩ := R3.own i _ hi
  rw [g1] at k1
  cases k1
  have hlen := kr.length
  refine ⟨q, vs', (kk : Int), kk, rfl, rfl, k2, ?_, ?_⟩
  · unfold ixN
    rw [if_pos (by omega), if_pos (by omega), Int.toNat_natCast]
  · exact q1 _ B2 σ _ F3 (R3.wrOwn (ct' := .l (ds.set kk y)) hi g1 ⟨_, rfl, by rw [List.length_set]; exact kz, kr.set (Rep.mono e3 hv) kk⟩) (e1.trans e3) h
/-- a, b = x, y: own things too -/
theorem ex_parR {a b : Expr} {r1 r2 : Res} {i j : Nat} {n2 : Str} {px py pt : Pos} {kt k2 pt2} (s1 : St1 g i n) (s2 : St1 g j n2) (hij : i ≠ j) (l1 : g.sc.names.lookup n = some .local) (l2 : g.sc.names.lookup n2 = some .local) (ha : EvR g a ρ B r1 B1) (hb : EvR g b (noOwn ρ) B1 r2 B2) (h : E.nx ((ρ.set i r1.sl).set j r2.sl) B2)
    (hw : ∀ env : Env, env.scope = g.sc → swappedStores [.Tuple [.Name n px, .Name n2 py] kt pt] (.Tuple [a, b] k2 pt2) env = pure (some [n, n2]))
    (hs : ∀ env : Env, swapsWithSole [.Tuple [.Name n px, .Name n2 py] kt pt] (.Tuple [a, b] k2 pt2) pos.line env = pure false := by intro _; rfl)
    (e1 : ∀ env : Env, starEach [a, b] env = (false, eval a env) :: starEach [b] env := by intro _; rfl) (e2 : ∀ env : Env, starEach [b] env = (false, eval b env) :: starEach [] env := by intro _; rfl) : Ex g (.Assign [.Tuple [.Name n px, .Name n2 py] kt pt] (.Tuple [a, b] k2 pt2) pos) ρ B E :=
  ⟨fun X hX => PS.imp (ps_par (X := X) hX.calm (by rw [hX.hN]; exact hX.nd) (by rw [hX.hN]; exact s1.ix) (by rw [hX.hN]; exact s2.ix) hij (by rw [hX.hs]; exact l1) (by rw [hX.hs]; exact l2) (pa_cons (ha.h X hX) (pa_cons (hb.h X hX) pa_nil (e2 X.env)) (e1 X.env)) (hw X.env hX.hs) (hs X.env)) fun D σ H ⟨c, F, R, q1, _⟩ =>
    ⟨c, F, R, fun v1 H1 F1 R1 f1 ok1 ap1 => ⟨⟨c.β, H1, F1⟩, F1, R1.enter, fun v2 H2 F2 R2 f2 ok2 ap2 => by
      have R3 : Rel g.T.K c ρ B2 σ H2 F2 := R1.leave R2
      have ok1' : ResOk g.T.K c H2 F2 r1 v1 := by
        cases r1 with
        | d x => exact Rep.mono f2 ok1
        | o ct =>
          obtain ⟨p, hv, ⟨ho, o1, o2⟩, o3, o4⟩ := ok1
          exact ⟨p, hv, ⟨ho, R2.fr p ho (R1.H_none o3) o1, o2.mono f2⟩, o3, R2.dj p (by show H1 p ≠ none; rw [o1]; exact fun z => nomatch z) o4⟩
      have ok2' : ResOk g.T.K c H2 F2 r2 v2 := by
        cases r2 with
        | d x => exact ok2
        | o ct =>
          obtain ⟨p, hv, ⟨ho, o1, o2⟩, o3, o4⟩ := ok2
          exact ⟨p, hv, ⟨ho, o1, o2⟩, R1.H0_none o3, o4⟩
      have ap2' : Apart (ρ.set i r1.sl) (σ.set i (some v1)) r2 v2 := by
        intro ct2 he i' ct' p' h1 h2 hv2
        subst he
        obtain ⟨p, hv, ⟨ho, o1, o2⟩, o3, o4⟩ := ok2
        have o3' : H1 p = none := o3
        rw [hv] at hv2
        cases hv2
        by_cases hi : i' = i
        · subst hi
          have hlt : i' < ρ.length := by
            by_cases hl : i' < ρ.length
            · exact hl
            · rw [List.getElem?_eq_none (by rw [List.length_set]; omega)] at h1
              cases h1
          rw [List.getElem?_set_self hlt] at h1
          rw [List.getElem?_set_self (by rw [← R1.len]; exact hlt)] at h2
          cases h2
          cases r1 with
          | d x => cases h1
          | o ct =>
            obtain ⟨p1, hv1, ⟨ho1, g1, _⟩, _, _⟩ := ok1
            cases hv1
            rw [o3'] at g1
            cases g1
        · rw [List.getElem?_set_ne (fun z => hi z.symm)] at h1
          rw [List.getElem?_set_ne (fun z => hi z.symm)] at h2
          obtain ⟨q, hq, ⟨ho1, g1, _⟩, _, _⟩ := R1.own i' ct' h1
          rw [h2] at hq
          cases hq
          rw [o3'] at g1
          cases g1
      exact ⟨v1, v2, rfl, q1 _ B2 _ H2 F2 ((R3.set ok1' ap1 i).set ok2' ap2' j) (f1.trans f2) h⟩⟩⟩⟩
end
end PD
namespace PD
open PySem PySem.Spec PyProof.Rows L2 RZ
theorem b_mulW {g : G} {i j : Int} (h : CMulW i j) : BinD g (binaryOp .Mult) (.int i) (.int j) (.d (.int (i * j))) := binD_v (fun X _ => op_mulW (X := X)) _ _ (.int (i * j)) inv_int inv_int (fun _ _ _ => .int _) fun X H Q _ q => ⟨i, j, rfl, rfl, h, q⟩
end PD
namespace PD
open PySem PySem.Spec PyProof.Rows L2 RZ
open PySem.Sem (wp)
/-! ### dicts whose keys are tuples of bools -/
theorem dO_addr {P : Program} {w : World} {H : Hp} {h : Heap} {a q : Addr} {o : Obj} {es : Array DictEntry} {ep : Nat} (x : ObjOk P w H h a (dO q o)) (hd : o.data = .dict es ep) : q = a := by
  obtain ⟨⟨h1, h2⟩, _, st⟩ := x
  refine Classical.byContradiction fun hne => ?_
  let f : Obj → Obj := fun ob => { ob with dict := match ob.dict with | none => some 0 | some _ => none }
  have h3 := st h (h.update q f) ⟨h1, h2⟩ fun ob e => (Heap.get?_update_other _ _ (fun z => hne z)).trans e
  have h4 : (h.update q f).get? q = some (f o) := Heap.get?_update_self f h1 (Obj.isFreed_of_dict (es := es) (ep := ep) hd)
  rw [h3.1] at h4
  have h5 : o.dict = (f o).dict := congrArg Obj.dict (Option.some.inj h4)
  have h6 : (f o).dict = match o.dict with | none => some 0 | some _ => none := rfl
  rw [h6] at h5
  cases hq : o.dict with
  | none => rw [hq] at h5; cases h5
  | some z => rw [hq] at h5; cases h5
def tbGet (kvs : List (List Bool × Int)) (ks : List Bool) : Option Int := (kvs.find? fun kv => decide (kv.1 = ks)).map (·.2)
def tbPut (kvs : List (List Bool × Int)) (ks : List Bool) (i : Int) : List (List Bool × Int) := if (tbGet kvs ks).isSome then kvs.map (fun kv => if kv.1 = ks then (kv.1, i) else kv) else kvs ++ [(ks, i)]
theorem bl2_inj : ∀ {x y : List Bool}, bl2 x = bl2 y → x = y
  | [], [], _ => rfl
  | [], _ :: _, h => by cases h
  | _ :: _, [], h => by cases h
  | a :: x, b :: y, h => by
    unfold bl2 at h
    rw [List.map_cons, List.map_cons] at h
    injection h with h1 h2
    have e : x = y := bl2_inj h2
    rw [e]
    cases a <;> cases b <;> first | rfl | (injection h1 with h1; cases h1)
theorem bool_items {P : Program} {w : World} : ∀ {ks : List Bool} {us : List Value}, Vals (ks.map V.bl) us → ItemsAre (leafKind P w) (bl2 ks) us
  | [], _, r => by rw [List.map_nil] at r; cases r; exact .nil
  | k :: ks, _, r => by
    rw [List.map_cons] at r
    cases r with
    | @cons _ u _ _ h t =>
      have h' : u = Value.bool k := h
      subst h'
      exact .cons (by show Leaf.isOf (.num (if k = true then 1 else 0)) (.bool k) = true; exact decide_eq_true rfl) (bool_items t)
section
variable {X : Cx} {pins : List (Addr × Obj)} {σ : L2.St} {H F : Hp} {s : Shared} {a b q : Addr} {o : Obj} {kvs : List (List Bool × Int)} {ks : List Bool}
theorem tkey_of (I : Inv X pins σ H s) (h : SqT X.K H b (ks.map V.bl)) : (tupleKind (leafKind X.prog X.w)).is s.heap (bl2 ks) b := by
  obtain ⟨its, r, ⟨o, h1, h2, n, h3⟩, _⟩ := I.tuple h
  exact ⟨o, its.toArray, n, h1, h2, h3, by simpa using bool_items r⟩
structure TbIn (X : Cx) (s : Shared) (F : Hp) (a : Addr) (o : Obj) (kvs : List (List Bool × Int)) (xs : List (List Leaf × Addr × Value)) : Prop where
  sm : (a == sysModules) = false
  at_ : s.heap.get? a = some o
  dd : s.heap.DictOfH (tupleKind (leafKind X.prog X.w)) a xs
  pr : Paired (TbP X.K F) kvs xs
theorem tb_of (I : Inv X pins σ H s) (h : H a = some (dO q o)) (t : TbAt X.K X.prog X.w F o kvs) (sub : Same F H) : q = a ∧ ∃ xs, TbX X.prog X.w o xs ∧ TbIn X s F a o kvs xs := by
  obtain ⟨_, xs, ⟨ex, ⟨es, ep, hd, he⟩, nd⟩, pr⟩ := t
  have hx := I.hok a _ h
  have e : q = a := dO_addr hx hd
  subst e
  obtain ⟨⟨h1, h2⟩, _, _⟩ := hx
  refine ⟨rfl, xs, ⟨ex, ⟨es, ep, hd, he⟩, nd⟩, h2, h1, ⟨o, es, ep, h1, ex, hd, he, fun x hx => ?_, nd⟩, pr⟩
  have all : ∀ {l : List (List Bool × Int)} {m : List (List Leaf × Addr × Value)}, Paired (TbP X.K F) l m → ∀ x ∈ m, (tupleKind (leafKind X.prog X.w)).is s.heap x.1 x.2.1 := by
    intro l m r
    induction r with
    | nil => intro x hx; exact nomatch hx
    | @cons p q ps qs hq t ih =>
      intro x hx
      rcases List.mem_cons.mp hx with e | hx
      · subst e
        rw [hq.1]
        exact tkey_of I (Same.seqT sub hq.2.1)
      · exact ih x hx
  exact all pr x hx
theorem tb_val {K : PySem.W.Frag} : ∀ {kvs : List (List Bool × Int)} {xs : List (List Leaf × Addr × Value)}, Paired (TbP K F) kvs xs → (tbGet kvs ks = none ∧ atKey xs (bl2 ks) = none) ∨ ∃ i p, tbGet kvs ks = some i ∧ atKey xs (bl2 ks) = some p ∧ RelV (.int i) p.2
  | _, _, .nil => .inl ⟨rfl, rfl⟩
  | kv :: kvs, x :: xs, .cons h t => by
    by_cases e : kv.1 = ks
    · refine .inr ⟨kv.2, x.2, ?_, ?_, h.2.2⟩
      · unfold tbGet
        rw [List.find?_cons_of_pos (by simp [e])]
        rfl
      · unfold atKey
        rw [List.find?_cons_of_pos (by simp [h.1, e])]
        rfl
    · have e2 : ¬ x.1 = bl2 ks := fun z => e (bl2_inj (h.1.symm.trans z))
      have g1 : tbGet (kv :: kvs) ks = tbGet kvs ks := by
        unfold tbGet
        rw [List.find?_cons_of_neg (by simp [e])]
      have g2 : atKey (x :: xs) (bl2 ks) = atKey xs (bl2 ks) := by
        unfold atKey
        rw [List.find?_cons_of_neg (by simp [e2])]
      rw [g1, g2]
      exact tb_val t
theorem pair_app {α β : Type} {R : α → β → Prop} : ∀ {xs : List α} {ys : List β} {a : α} {b : β}, Paired R xs ys → R a b → Paired R (xs ++ [a]) (ys ++ [b])
  | _, _, _, _, .nil, h => .cons h .nil
  | _, _, _, _, .cons r t, h => .cons r (pair_app t h)
theorem pair_map {K : PySem.W.Frag} {i : Int} {v : Value} (rv : RelV (.int i) v) : ∀ {kvs : List (List Bool × Int)} {xs : List (List Leaf × Addr × Value)}, Paired (TbP K F) kvs xs → Paired (TbP K F) (kvs.map fun kv => if kv.1 = ks then (kv.1, i) else kv) (xs.map (putAt (bl2 ks) v))
  | _, _, .nil => .nil
  | kv :: kvs, x :: xs, .cons h t => by
    rw [List.map_cons, List.map_cons]
    refine .cons ?_ (pair_map rv t)
    unfold putAt
    by_cases e : kv.1 = ks
    · rw [if_pos e, if_pos (by rw [h.1, e])]
      exact ⟨h.1, h.2.1, rv⟩
    · rw [if_neg e, if_neg fun z => e (bl2_inj (h.1.symm.trans z))]
      exact h
theorem tb_put {K : PySem.W.Frag} {kvs : List (List Bool × Int)} {xs : List (List Leaf × Addr × Value)} {i : Int} {v : Value} (pr : Paired (TbP K F) kvs xs) (hb : SqT K F b (ks.map V.bl)) (rv : RelV (.int i) v) : Paired (TbP K F) (tbPut kvs ks i) (storedH xs (bl2 ks) b v) := by
  rcases tb_val (ks := ks) pr with ⟨h1, h2⟩ | ⟨j, p, h1, h2, _⟩
  · unfold tbPut
    rw [h1, storedH_new h2, if_neg (by simp)]
    exact pair_app pr ⟨rfl, hb, rv⟩
  · unfold tbPut
    rw [h1, storedH_old h2, if_pos (show (some j).isSome = true from rfl)]
    exact pair_map rv pr
theorem tbPut_len (kvs : List (List Bool × Int)) (ks : List Bool) (i : Int) : (tbPut kvs ks i).length ≤ kvs.length + 1 := by
  unfold tbPut
  split
  · rw [List.length_map]
    omega
  · rw [List.length_append]
    exact Nat.le_refl _
theorem tb_type (I : Inv X pins σ H s) (h : H a = some (dO q o)) (t : TbAt X.K X.prog X.w F o kvs) (sub : Same F H) : s.TypeIs (.ref a) "dict" ∧ ∀ b, Value.ref a = .ref b → ∃ ob, s.heap.get? b = some ob ∧ ob.dict = none := by
  obtain ⟨_, xs, tx, tin⟩ := tb_of I h t sub
  refine ⟨tin.dd.typeIs, fun b q => ?_⟩
  cases q
  exact ⟨o, tin.at_, tx.ex.2.1⟩
end
theorem dO_ok {P : Program} {w : World} {H : Hp} {h : Heap} {a : Addr} {o : Obj} (h1 : h.get? a = some o) (h2 : (a == sysModules) = false) : ObjOk P w H h a (dO a o) := ⟨⟨h1, h2⟩, ⟨o, h1⟩, fun _ _ ⟨e1, e2⟩ st => ⟨st _ e1, e2⟩⟩
/-- d.get(k, x) -/
def tTbGet (K : PySem.W.Frag) (P : Program) (w : World) (td ty tx : TE) : TE := fun σ H Q => td σ H fun x H1 => ∃ a q o F0 kv0, x = .ref a ∧ H1 a = some (dO q o) ∧ TbAt K P w F0 o kv0 ∧ Same F0 H1 ∧ ty σ H1 fun y H2 => tx σ H2 fun z H3 =>
  ∃ F kvs ks b i, H3 a = some (dO q o) ∧ TbAt K P w F o kvs ∧ Same F H3 ∧ y = .ref b ∧ SqT K H3 b (ks.map V.bl) ∧ z = .int i ∧ Q (.int ((tbGet kvs ks).getD i)) H3
theorem pe_tbGet {X : Cx} {o e f : Expr} {apos cpos : Pos} {td ty tx : TE} (hu : X.A.units + 64 < cLine) (ho : PE X o td) (he : PE X e ty) (hf : PE X f tx) (m : M2 X o "get" apos e f cpos) : PE X (.Call (.Attribute o "get" apos) [e, f] [] cpos) (tTbGet X.K X.prog X.w td ty tx) := by
  refine ⟨fun pins s σ H Q I hq0 => ?_⟩
  refine wpAny_Call_method m.base m.few m.line PySem.F.plainAttrs_dict PySem.F.slot_dict_get PySem.F.type_dict_get (thn (ho.run pins s σ H _ I hq0) fun u s1 ⟨x, H1, I1, rx, a, q, ob, F0, kv0, ex, d1, d2, d3, q1⟩ => ?_)
  subst ex
  obtain rfl : u = Value.ref a := rx
  obtain ⟨t1, t2⟩ := tb_type I1 d1 d2 d3
  refine ⟨t1, t2, ?_⟩
  rw [m.trees]
  refine Calls.callWith_builtin rfl (Calls.evalArgs_plain (Calls.spliced_cons (thn (he.run pins s1 σ H1 _ I1 q1) fun iv s2 ⟨y, H2, I2, ry, q2⟩ => Calls.spliced_cons (thn (hf.run pins s2 σ H2 _ I2 q2) fun fv s3 ⟨z, H3, I3, rz, F, kvs, ks, b, i, g1, g2, g3, ey, g4, ez, q3⟩ => Calls.spliced_nil ?_))))
  subst ey ez
  cases (show iv = Value.ref b from ry)
  obtain ⟨_, xs, tx, tin⟩ := tb_of I3 g1 g2 g3
  refine call_meetsIn PySem.F.slot_dict_get tin.dd.typeIs PySem.F.entry_dict_get (PySem.F.args_dict_get_3 _ _ _) (meetsH_dict_get_default (tupleKind (leafKind X.prog X.w)) a b tin.sm fv) ⟨(by show X.A.in1.units < cLine; exact Nat.lt_of_le_of_lt (show X.A.in1.units ≤ X.A.units + 1 from Nat.le_refl _) (by omega)), bl2 ks, xs, tkey_of I3 g4, tin.dd, ⟨.int ((tbGet kvs ks).getD i), H3, I3.tok _, ?_, q3⟩⟩
  rcases tb_val (ks := ks) tin.pr with ⟨h1, h2⟩ | ⟨j, p, h1, h2, h3⟩
  · rw [h1, h2]
    exact rz
  · rw [h1, h2]
    exact h3
/-- d[k], there -/
def tTbIx (K : PySem.W.Frag) (P : Program) (w : World) (td ty : TE) : TE := fun σ H Q => td σ H fun x H1 => ty σ H1 fun y H2 =>
  ∃ a q o F kvs ks b i, x = .ref a ∧ H2 a = some (dO q o) ∧ TbAt K P w F o kvs ∧ Same F H2 ∧ y = .ref b ∧ SqT K H2 b (ks.map V.bl) ∧ tbGet kvs ks = some i ∧ Q (.int i) H2
theorem pe_tbIx {X : Cx} {o i : Expr} {pos : Pos} {td ty : TE} (hu : X.A.units + 64 < cLine) (ho : PE X o td) (hi : PE X i ty) (hs : NoSl i) : PE X (.Subscript o i pos) (tTbIx X.K X.prog X.w td ty) := by
  refine ⟨fun pins s σ H Q I h => ?_⟩
  refine subD_of PySem.F.slot_dict_getitem.lookup hs (thn (ho.run pins s σ H _ I h) fun u s1 ⟨x, H1, I1, rx, q1⟩ => thn (hi.run pins s1 σ H1 _ I1 q1) fun iv s2 ⟨y, H2, I2, ry, a, q, ob, F, kvs, ks, b, j, ex, g1, g2, g3, ey, g4, g5, q2⟩ => ?_)
  subst ex ey
  obtain rfl : u = Value.ref a := rx
  cases (show iv = Value.ref b from ry)
  obtain ⟨_, xs, tx, tin⟩ := tb_of I2 g1 g2 g3
  refine ⟨tin.dd.typeIs, ?_⟩
  rcases tb_val (ks := ks) tin.pr with ⟨h1, h2⟩ | ⟨j', p, h1, h2, h3⟩
  · rw [h1] at g5
    cases g5
  · rw [h1] at g5
    cases g5
    exact wpAny_getItem_heap (by show X.A.in1.units < cLine; exact Nat.lt_of_le_of_lt (show X.A.in1.units ≤ X.A.units + 1 from Nat.le_refl _) (by omega)) (tkey_of I2 g4) tin.dd h2 ⟨.int j, H2, I2.tok _, h3, q2⟩
/-- d[k] = v -/
def sTbPut (K : PySem.W.Frag) (P : Program) (w : World) (td ty tv : TE) : TS := fun D σ H => tv σ H fun v H1 => td σ H1 fun x H2 => ty σ H2 fun y H3 =>
  ∃ a q o F kvs ks b i, x = .ref a ∧ v = .int i ∧ H3 a = some (dO q o) ∧ TbAt K P w F o kvs ∧ Same F H3 ∧ F a = none ∧ y = .ref b ∧ SqT K F b (ks.map V.bl) ∧ kvs.length < sizeLine ∧ ∀ o', TbAt K P w F o' (tbPut kvs ks i) → D.nx σ (upd H3 a (dO q o'))
theorem ps_tbPut {X : Cx} {o i value : Expr} {pos pos' : Pos} {td ty tv : TE} (hu : X.A.units + 64 < cLine) (ho : PE X o td) (hi : PE X i ty) (hv : PE X value tv) (hs : swapsWith value (some (.Subscript o i pos')) pos.line X.env = pure false) :
    PS X (.Assign [.Subscript o i pos'] value pos) (sTbPut X.K X.prog X.w td ty tv) := by
  refine ⟨fun pins s σ H D I h => ?_⟩
  refine wpAny_Assign_Subscript (thn (hv.run pins s σ H _ I h) fun r s1 ⟨v, H1, I1, rv, q1⟩ => thn (ho.run pins s1 σ H1 _ I1 q1) fun u s2 ⟨x, H2, I2, rx, q2⟩ => thn (hi.run pins s2 σ H2 _ I2 q2) fun iv s3 ⟨y, H3, I3, ry, a, q, ob, F, kvs, ks, b, j, ex, ev, g1, g2, g3, gF, ey, g4, g5, q3⟩ => ?_) hs
  subst ex ey ev
  obtain rfl : u = Value.ref a := rx
  cases (show iv = Value.ref b from ry)
  obtain ⟨rfl, xs, tx, tin⟩ := tb_of I3 g1 g2 g3
  have hxl : xs.length = kvs.length := (Paired.length tin.pr).symm
  refine wpAny_setItem_heap (hsz := by omega) (by show X.A.in1.units < cLine; exact Nat.lt_of_le_of_lt (show X.A.in1.units ≤ X.A.units + 1 from Nat.le_refl _) (by omega)) (tkey_of I3 (Same.seqT g3 g4)) tin.dd fun h' dd' hsb => ?_
  obtain ⟨o', es, ep, hq, h2, h3, h4, h5, h6⟩ := dd'
  have hl : (tbPut kvs ks j).length ≤ sizeLine := by have := tbPut_len kvs ks j; omega
  have new : TbAt X.K X.prog X.w F o' (tbPut kvs ks j) := ⟨hl, _, ⟨h2, ⟨es, ep, h3, h4⟩, h6⟩, tb_put tin.pr g4 rv⟩
  exact ⟨σ, _, d_write I3 (by rw [g1]; exact True.intro) hsb ⟨o', hq⟩ (dO_ok hq tin.sm), q3 o' new⟩
/-- {} -/
def tTb0 (K : PySem.W.Frag) (P : Program) (w : World) : TE := fun _ H Q => ∀ p o, H p = none → (∀ F, TbAt K P w F o []) → Q (.ref p) (upd H p (dO p o))
theorem tb_empty {K : PySem.W.Frag} {P : Program} {w : World} {F : Hp} : TbAt K P w F { cls := .type "dict", data := .dict #[] } [] := ⟨Nat.zero_le _, [], ⟨⟨rfl, rfl, rfl⟩, ⟨_, _, rfl, rfl⟩, List.nodup_nil⟩, .nil⟩
theorem pe_tb0 {X : Cx} {pos : Pos} : PE X (.Dict [] [] pos) (tTb0 X.K X.prog X.w) := ⟨fun pins s σ H Q I h =>
  wpAny_Dict_empty ⟨.ref s.heap.objs.size, _, I.laid (a := s.heap.objs.size) (o := dO s.heap.objs.size { cls := .type "dict", data := .dict #[] }) (t' := s.toks) (fun _ _ q => Heap.get?_push_of_some _ q) (Nat.le_refl _) (dO_ok (Heap.get?_push_size _ rfl) (beq_eq_false_iff_ne.mpr (Nat.ne_of_gt I.big))), rfl, h _ _ (I.hok.fresh (Nat.le_refl _)) fun F => tb_empty⟩⟩
/-- {k: v} -/
def tTb1 (K : PySem.W.Frag) (P : Program) (w : World) (tk tv : TE) : TE := fun σ H Q => ∀ p o0, H p = none → tk σ (upd H p (dO p o0)) fun x H1 => tv σ H1 fun y H2 =>
  H2 p = some (dO p o0) ∧ ∃ F b ks i, x = .ref b ∧ y = .int i ∧ Same F H2 ∧ SqT K F b (ks.map V.bl) ∧ F p = none ∧ ∀ o, TbAt K P w F o [(ks, i)] → Q (.ref p) (upd H2 p (dO p o))
theorem pe_tb1 {X : Cx} {pos : Pos} {k v : Expr} {tk tv : TE} (hu : X.A.units + 64 < cLine) (hk : PE X k tk) (hv : PE X v tv) : PE X (.Dict [some k] [v] pos) (tTb1 X.K X.prog X.w tk tv) := by
  refine ⟨fun pins s σ H Q I q => ?_⟩
  have hn := I.hok.fresh (Nat.le_refl s.heap.objs.size)
  have hsm : (s.heap.objs.size == sysModules) = false := beq_eq_false_iff_ne.mpr (Nat.ne_of_gt I.big)
  have I1 := I.laid (a := s.heap.objs.size) (o := dO s.heap.objs.size { cls := .type "dict", data := .dict #[] }) (h' := s.heap.push { cls := .type "dict", data := .dict #[] }) (t' := s.toks) (fun _ _ q => Heap.get?_push_of_some _ q) (Nat.le_refl _) (dO_ok (Heap.get?_push_size _ rfl) hsm)
  rw [arm_eval_Dict, zip_pairTrees [some k] [v] X.env pos rfl rfl, dictDisplay_pairs (pairTrees [some k] [v] X.env pos) (by intro z; cases z) (by show 1 < 17; omega)]
  refine wpAny_bind (wpAny_standAt (wpAny_bind (wpAny_subDictH (knd := tupleKind (leafKind X.prog X.w)) (by show X.A.units < cLine; omega) (by show 1 ≤ 15; omega) ?_)))
  refine pairTrees_cons_walk (thn (hk.run pins _ σ _ _ I1 (q _ { cls := .type "dict", data := .dict #[] } hn)) fun u s2 ⟨x, H2, I2, rx, q2⟩ => thn (hv.run pins s2 σ H2 _ I2 q2) fun w2 s3 ⟨y, H3, I3, ry, e, F, b, ks, i, ex, ey, sub, hb, hF, q3⟩ => pairTrees_nil_walk ?_)
  subst ex ey
  cases (show u = Value.ref b from rx)
  obtain ⟨_, xs, tx, tin⟩ := tb_of (F := F) I3 e tb_empty sub
  have hxs : xs = [] := by cases tin.pr; rfl
  subst hxs
  refine ⟨[(bl2 ks, b, w2)], ⟨rfl, rfl, tkey_of I3 (Same.seqT sub hb), trivial⟩, tin.dd, fun h' tk' dd' hs => ?_⟩
  obtain ⟨o', es, ep, hq, h2, h3, h4, h5, h6⟩ := dd'
  have new : TbAt X.K X.prog X.w F o' [(ks, i)] := ⟨by show 1 ≤ sizeLine; decide, [(bl2 ks, b, w2)], ⟨h2, ⟨es, ep, h3, h4⟩, h6⟩, .cons ⟨rfl, hb, ry⟩ .nil⟩
  exact wpAny_pure ⟨.ref s.heap.objs.size, _, d_write I3 (by rw [e]; exact True.intro) hs ⟨o', hq⟩ (dO_ok hq hsm), rfl, q3 o' new⟩
/-! for k in d -/
def Itb (K : PySem.W.Frag) (F : Hp) (d q : Addr) (o : Obj) (kvs : List (List Bool × Int)) : It :=
  ⟨fun i H => H d = some (dO q o) ∧ Same F H ∧ i < kvs.length, fun i H x H' => H' = H ∧ ∃ kv b, kvs[i]? = some kv ∧ x = .ref b ∧ SqT K F b (kv.1.map V.bl), fun i H => H d = some (dO q o) ∧ Same F H ∧ kvs.length ≤ i⟩
theorem tb_entry {K : PySem.W.Frag} {P : Program} {w : World} {F : Hp} : ∀ {kvs : List (List Bool × Int)} {xs : List (List Leaf × Addr × Value)} {i : Nat} {kv : List Bool × Int}, Paired (TbP K F) kvs xs → kvs[i]? = some kv → ∃ x, xs[i]? = some x ∧ SqT K F x.2.1 (kv.1.map V.bl)
  | _, _, _, _, .nil, h => by simp at h
  | _ :: _, x :: _, 0, kv, .cons r t, h => by
    have e : _ = kv := Option.some.inj h
    subst e
    exact ⟨x, rfl, r.2.1⟩
  | _ :: _, _ :: _, i + 1, kv, .cons _ t, h => by
    obtain ⟨x, h1, h2⟩ := tb_entry (P := P) (w := w) (i := i) t (by simpa using h)
    exact ⟨x, by simpa using h1, h2⟩
theorem turn_tb {P : Program} {w : World} {K : PySem.W.Frag} {tg : Expr} {F : Hp} {d q : Addr} {o : Obj} {kvs : List (List Bool × Int)} {es : Array DictEntry} {ep : Nat} (it : Addr) (hod : o.data = .dict es ep) (tb : TbAt K P w F o kvs) : Turn P w K tg (Itb K F d q o kvs) [it] it (fun i h => h.IsKeyIter it d i kvs.length ep) where
  mem := List.mem_singleton.mpr rfl
  obj := fun i h st c hc => by
    have e : c = it := List.mem_singleton.mp hc
    subst e
    obtain ⟨oi, e1, e2, e3⟩ := st
    exact ⟨oi, e1, fun v z => by rw [e3] at z; cases z⟩
  keep := fun i h h' st k => st.at fun oi e => k it (List.mem_singleton.mpr rfl) oi e
  item := by
    intro X e1 e2 e3 calm i pins s σ H E I hf st hg
    subst e1 e2 e3
    obtain ⟨g1, g2, g3⟩ := hg
    obtain ⟨f0, f1, f2, f3, f4, f5⟩ := hf it (List.mem_singleton.mpr rfl)
    obtain ⟨rfl, xs, ⟨tx1, ⟨es', ep', tx2, tx3⟩, tx4⟩, tin⟩ := tb_of I g1 tb g2
    obtain ⟨rfl, rfl⟩ := dict_ep hod tx2
    obtain ⟨kv, hkv⟩ : ∃ p, kvs[i]? = some p := ⟨kvs[i], List.getElem?_eq_getElem g3⟩
    obtain ⟨x, hx, hq⟩ := tb_entry (P := X.prog) (w := X.w) tin.pr hkv
    have hen : es'[i]? = some (entryOfKey (tupleKind (leafKind X.prog X.w)) x) := by
      have := entry_at tx3 i
      rw [hx] at this
      exact this
    have hsz : es'.size = kvs.length := by
      have l1 : es'.size = xs.length := size_of_entries tx3
      have l2 := Paired.length tin.pr
      omega
    refine next_key_item st tin.at_ hod hsz hen fun h' st' sb => ?_
    have I1 : Inv X pins σ H { s with heap := h' } := I.turned (t' := s.toks) (fun c oc hc e => (sb.2 c hc).trans e) f0 f1 f3 f4 f5
    obtain ⟨oi, k1, k2, k3⟩ := id st'
    exact ⟨_, rfl, go_of (s := { s with heap := h' }) k1 k2 k3 (by decide) ⟨.ref x.2.1, H, I1, rfl, ⟨rfl, kv, x.2.1, hkv, rfl, hq⟩, st', fun c hc => (hf c hc).1⟩⟩
  done := by
    intro X e1 e2 e3 calm i pins s σ H E I hf st hg
    subst e1 e2 e3
    obtain ⟨g1, g2, g3⟩ := hg
    obtain ⟨f0, f1, f2, f3, f4, f5⟩ := hf it (List.mem_singleton.mpr rfl)
    obtain ⟨rfl, xs, ⟨tx1, ⟨es', ep', tx2, tx3⟩, tx4⟩, tin⟩ := tb_of I g1 tb g2
    obtain ⟨rfl, rfl⟩ := dict_ep hod tx2
    have hsz : es'.size = kvs.length := by
      have l1 : es'.size = xs.length := size_of_entries tx3
      have l2 := Paired.length tin.pr
      omega
    exact next_key_end (I.ok.hd calm) st tin.at_ hod hsz g3 fun h' eb => ⟨rfl, I.turned (t' := s.toks) (fun c oc hc e => eb c oc hc e) f0 f1 f3 f4 f5⟩
  self := fun A i s Q E st h => wpAny_pyIter_keyiter st h
def iTb (K : PySem.W.Frag) (P : Program) (w : World) (td : TE) : TI := fun σ H R => td σ H fun x H1 => ∃ d q o F kvs, x = .ref d ∧ H1 d = some (dO q o) ∧ TbAt K P w F o kvs ∧ Same F H1 ∧ R (Itb K F d q o kvs) H1
theorem pi_tb {X : Cx} {tg e : Expr} {td : TE} (he : PE X e td) : PI X tg e (iTb X.K X.prog X.w td) := by
  refine ⟨fun pins s σ H R I hh => ?_⟩
  refine thn (he.run pins s σ H _ I hh) fun u s1 ⟨x, H1, I1, rx, d, q, o, F, kvs, ex, g1, tb, g2, r⟩ => ?_
  subst ex
  obtain rfl : u = Value.ref d := rx
  obtain ⟨rfl, xs, ⟨tx1, ⟨es, ep, tx2, tx3⟩, tx4⟩, tin⟩ := tb_of I1 g1 tb g2
  have hsz : es.size = kvs.length := by
    have l1 : es.size = xs.length := size_of_entries tx3
    have l2 := Paired.length tin.pr
    omega
  refine iter_keys tin.sm tin.at_ tx1 tx2 (pi_one (tk := s1.toks) I1 _ (turn_tb _ tx2 tb) ⟨_, Heap.get?_push_size _ rfl, rfl, ?_⟩ r)
  rw [hsz] <;> rfl
end PD
namespace PD
open PySem PySem.Spec PyProof.Rows L2 RZ
open PySem.Sem (wp)
theorem rep_bools {K : PySem.W.Frag} {β : Option Addr} {F : Hp} {ks : List Bool} {v : V} (h : Rep K β F (.tup (ks.map .bl)) v) : ∃ b, v = .ref b ∧ SqT K F b (ks.map V.bl) := by
  cases h with
  | tup h1 h2 h3 =>
    have e := RepAll.bls h3
    subst e
    exact ⟨_, rfl, h1⟩
theorem rep_ofBools {K : PySem.W.Frag} {β : Option Addr} {F : Hp} : ∀ ks : List Bool, RepAll K β F (ks.map D.bl) (ks.map V.bl)
  | [] => .nil
  | k :: ks => .cons (.bl k) (rep_ofBools ks)
section
variable {g : G} {ρ : Rho} {B B' B1 B2 B3 : Bag} {e f o a b ix : Expr} {k : Bool} {pos p apos cpos epos : Pos} {n : Str} {E : En} {kvs : List (List Bool × Int)} {ks : List Bool}
theorem ev_tbGet {i : Int} (ho : Ev g o ρ B (.dtb g.T.P g.T.w kvs) B1) (he : Ev g e ρ B1 (.tup (ks.map .bl)) B2) (hf : Ev g f ρ B2 (.int i) B3) (hm : ∀ X : Cx, M2 X o "get" apos e f cpos := by intro _; exact ⟨rfl, rfl, rfl, rfl⟩) :
    Ev g (.Call (.Attribute o "get" apos) [e, f] [] cpos) ρ B (.int ((tbGet kvs ks).getD i)) B3 := by
  refine ⟨fun X hX => PE.imp (pe_tbGet hX.room.units (ho.h X hX) (he.h X hX) (hf.h X hX) (hm X)) fun σ H Q ⟨c, F, R, q⟩ => ⟨c, F, R, fun v1 H1 F1 R1 e1 h1 _ => ?_⟩⟩
  cases h1 with
  | @dtb a q0 o' _ _ _ hd ht =>
    refine ⟨a, q0, o', F1, kvs, rfl, R1.sub _ _ hd, by rw [hX.hK, hX.hP, hX.hw]; exact ht, R1.sub, c, F1, R1, fun v2 H2 F2 R2 e2 h2 _ => ?_⟩
    obtain ⟨b, rfl, hb⟩ := rep_bools h2
    refine ⟨c, F2, R2, fun v3 H3 F3 R3 e3 h3 _ => ?_⟩
    cases h3
    refine ⟨F3, kvs, ks, b, i, R3.sub _ _ (e3 _ _ (e2 _ _ hd)), by rw [hX.hK, hX.hP, hX.hw]; exact (ht.mono e2).mono e3, R3.sub, rfl, by rw [hX.hK]; exact Same.seqT R3.sub (Same.seqT e3 hb), rfl, ?_⟩
    exact q _ H3 F3 R3 (e1.trans (e2.trans e3)) (.int _) apart_d
theorem ev_tbIx {i : Int} (ho : Ev g a ρ B (.dtb g.T.P g.T.w kvs) B1) (he : Ev g b ρ B1 (.tup (ks.map .bl)) B2) (hi : tbGet kvs ks = some i) (hs : PlainIxE b := by intro _ _; rfl) : Ev g (.Subscript a b pos) ρ B (.int i) B2 := by
  refine ⟨fun X hX => PE.imp (pe_tbIx hX.room.units (ho.h X hX) (he.h X hX) hs) fun σ H Q ⟨c, F, R, q⟩ => two R fun v w H2 F2 R2 e2 h1 h2 => ?_⟩
  cases h1 with
  | @dtb a q0 o' _ _ _ hd ht =>
    obtain ⟨b, rfl, hb⟩ := rep_bools h2
    exact ⟨a, q0, o', F2, kvs, ks, b, i, rfl, R2.sub _ _ hd, by rw [hX.hK, hX.hP, hX.hw]; exact ht, R2.sub, rfl, by rw [hX.hK]; exact Same.seqT R2.sub hb, hi, q _ H2 F2 R2 e2 (.int _) apart_d⟩
/-- x[k] = e, x an own dict of such keys -/
theorem ex_tbPut {i : Nat} {v : Int} {ps po : Pos} (hN : g.N[i]? = some n) (hv : Vis g.sc n) (hi : ρ[i]? = some (.o (.t g.T.P g.T.w kvs))) (he : Ev g e ρ B (.int v) B1) (hk : Ev g ix ρ B1 (.tup (ks.map .bl)) B2) (hl : kvs.length ≤ 1000000) (h : E.nx (ρ.set i (.o (.t g.T.P g.T.w (tbPut kvs ks v)))) B2)
    (hd : (n == ("__debug__" : Str)) = false := by decide) (hcd : (n == ("__classdict__" : Str)) = false := by decide)
    (hs : ∀ env : Env, swapsWith e (some (.Subscript (.Name n po) ix ps)) pos.line env = pure false := by intro _; rfl) : Ex g (.Assign [.Subscript (.Name n po) ix ps] e pos) ρ B E := by
  refine ⟨fun X hX => ?_⟩
  have pv : PE X (.Name n po) (tVar i) := pe_var (by rw [hX.hN]; exact hN) (by rw [hX.hs]; exact hv) hd hcd
  refine PS.imp (ps_tbPut hX.room.units pv (hk.h X hX) (he.h X hX) (hs X.env)) fun D σ H ⟨c, F, R, q1, _⟩ => ⟨c, F, R, fun v1 H1 F1 R1 e1 hv1 _ => ?_⟩
  have hv1' := inv_int _ _ _ _ hv1
  subst hv1'
  obtain ⟨a, g1, ⟨ho, g2, q, o', rfl, gt⟩, g4, g5⟩ := R1.own i _ hi
  refine ⟨.ref a, g1, c, F1, R1, fun v3 H3 F3 R3 e3 hv3 _ => ?_⟩
  obtain ⟨b, rfl, hb⟩ := rep_bools hv3
  obtain ⟨a', k1, ⟨ho', k2, q', o'', rfl, kt⟩, k4, k5⟩ := R3.own i _ hi
  rw [g1] at k1
  cases k1
  have hz' : (sizeLine : Nat) = 16777216 := sizeLine_eq
  refine ⟨a, q', o'', F3, kvs, ks, b, v, rfl, rfl, k2, by rw [hX.hK, hX.hP, hX.hw]; exact kt, R3.sub, k5, rfl, by rw [hX.hK]; exact hb, by omega, fun o3 ht => ?_⟩
  rw [hX.hK, hX.hP, hX.hw] at ht
  exact q1 _ B2 σ _ F3 (R3.wrOwn (ct' := .t g.T.P g.T.w (tbPut kvs ks v)) hi g1 ⟨q', o3, rfl, ht⟩) (e1.trans e3) h
theorem evr_tb0 : EvR g (.Dict [] [] pos) ρ B (.o (.t g.T.P g.T.w [])) B :=
  ⟨fun X hX => PE.imp pe_tb0 fun σ H Q ⟨c, F, R, q⟩ => fun p o np ht => q _ _ F (R.newO np) (Same.refl F) ⟨p, rfl, OwnAt.new' R np ⟨p, o, rfl, by have := ht F; rw [hX.hK, hX.hP, hX.hw] at this; exact this⟩⟩ (R.apart np)⟩
theorem evr_tb1 {i : Int} (ha : Ev g a (noOwn ρ) B (.tup (ks.map .bl)) B1) (hb : Ev g b (noOwn ρ) B1 (.int i) B2) : EvR g (.Dict [some a] [b] pos) ρ B (.o (.t g.T.P g.T.w [(ks, i)])) B2 := by
  refine ⟨fun X hX => PE.imp (pe_tb1 hX.room.units (ha.h X hX) (hb.h X hX)) fun σ H Q ⟨c, F, R, q⟩ => fun p o0 np => ?_⟩
  have Rn := R.newO (o := dO p o0) np
  have H0n := R.H0_none np
  have Fn := R.F_none np
  refine ⟨⟨c.β, upd H p (dO p o0), F⟩, F, Rn.enter, fun v1 H1 F1 R1 e1 h1 _ => ⟨_, F1, R1, fun v2 H2 F2 R2 e2 h2 _ => ?_⟩⟩
  obtain ⟨b, rfl, hb⟩ := rep_bools h1
  have hv2 : v2 = .int i := inv_int _ _ _ _ h2
  subst hv2
  have hp : H2 p = some (dO p o0) := R2.fr p _ (Rn.H_none H0n) upd_same
  have Fp : F2 p = none := R2.dj p (by show upd H p (dO p o0) p ≠ none; rw [upd_same]; exact fun z => nomatch z) Fn
  have R3 : Rel g.T.K c ρ B2 σ H2 F2 := Rn.leave R2
  refine ⟨hp, F2, b, ks, i, rfl, rfl, R3.sub, by rw [hX.hK]; exact Same.seqT e2 hb, Fp, fun o ht => ?_⟩
  rw [hX.hK, hX.hP, hX.hw] at ht
  refine q _ _ F2 (R3.wr H0n Fp fun j ct r h1 h2 z => ?_) (e1.trans e2) ⟨p, rfl, ⟨dO p o, upd_same, p, o, rfl, ht⟩, H0n, Fp⟩ (R.apart np)
  obtain ⟨r', g1, ⟨ho, g2, _⟩, _, _⟩ := R.own j ct h1
  rw [h2] at g1
  cases g1
  rw [z, np] at g2
  cases g2
/-! for k in d -/
theorem walkD_tb {K : PySem.W.Frag} {β : Option Addr} {F1 : Hp} {d q : Addr} {ob : Obj} (hd : F1 d = some (dO q ob)) (hl : ∀ kv ∈ kvs, kv.1.length ≤ 1000) : WalkD K β (Itb K F1 d q ob kvs) (kvs.map fun kv => .tup (kv.1.map .bl)) F1 where
  goes := fun i H hi e => ⟨e _ _ hd, e, by rw [List.length_map] at hi; exact hi⟩
  stops := fun H e => ⟨e _ _ hd, e, by rw [List.length_map]; exact Nat.le_refl _⟩
  yields := fun i H x H' hi e y => by
    obtain ⟨rfl, kv, b, h1, rfl, h2⟩ := y
    refine ⟨.tup (kv.1.map .bl), by rw [List.getElem?_map, h1]; rfl, .inl ⟨rfl, ?_⟩⟩
    have hz' : (sizeLine : Nat) = 16777216 := sizeLine_eq
    have := hl kv (List.mem_of_getElem? h1)
    exact .tup h2 (by rw [List.length_map]; omega) (rep_ofBools _)
theorem it_tb {tg : Expr} (he : Ev g e ρ B (.dtb g.T.P g.T.w kvs) B1) (hl : ∀ kv ∈ kvs, kv.1.length ≤ 1000) : ItD g tg e ρ B (kvs.map fun kv => .tup (kv.1.map .bl)) B1 := by
  refine ⟨fun X hX => ⟨_, pi_tb (he.h X hX), fun c σ H F Re R q => ⟨c, F, R, fun v H' F' R' e' ok _ => ?_⟩⟩⟩
  cases ok with
  | @dtb a q0 o' _ _ _ hd ht => exact ⟨a, q0, o', F', kvs, rfl, R'.sub _ _ hd, by rw [hX.hK, hX.hP, hX.hw]; exact ht, R'.sub, q _ H' F' R' e' (by rw [hX.hK]; exact walkD_tb hd hl)⟩
end
/-! a tuple of one truth, many times -/
open PySem.AutoSeq1 (wpAny_loadPart')
theorem tup_mul1 (l : Addr) (items : Array Value) (n : Nat) (dd : Option Addr) (sl : Array (Option Value)) (u : Tok) :
    Meets (Builtin.«tuple.__mul__» ⟨[.ref l, .int 1 u], []⟩) (fun _ R s => s.heap.get? l = some { cls := .type "tuple", dict := dd, data := .seq items n, slots := sl } ∧ R (.ok (.ret (Value.ref l))) s) :=
  .of_wp fun prog w A R s h => by
    obtain ⟨hp, g, d, tk, os⟩ := s
    obtain ⟨hl, h⟩ := h
    have f1 := AutoSeq1.idx_int
    wp_walk using wpAny_loadPart' hl
    exact ⟨_, rfl, h⟩
theorem tup_mul0 (l : Addr) (items : Array Value) (n : Nat) (dd : Option Addr) (sl : Array (Option Value)) (u : Tok) (hne : items.isEmpty = false) :
    Meets (Builtin.«tuple.__mul__» ⟨[.ref l, .int 0 u], []⟩) (fun _ R s => s.heap.get? l = some { cls := .type "tuple", dict := dd, data := .seq items n, slots := sl } ∧ R (.ok (.ret (Value.ref s.heap.objs.size))) { s with heap := s.heap.push { cls := Value.type "tuple", data := Data.seq #[] }, toks := s.toks }) :=
  .of_wp fun prog w A R s h => by
    obtain ⟨hp, g, d, tk, os⟩ := s
    obtain ⟨hl, h⟩ := h
    have f1 := AutoSeq1.idx_int
    wp_walk using wpAny_loadPart' hl
    exact ⟨_, rfl, h⟩
section
variable {X : Cx}
theorem op_rep1 : OpR X (binaryOp .Mult) (fun x y H Q => ∃ l xs, x = .ref l ∧ y = .int 1 ∧ SqT X.K H l xs ∧ Q (.ref l) H) := by
  intro pins s σ H x y v u Q I rx ry ⟨l, xs, e1, e2, hT, q⟩
  subst e1 e2
  cases rx
  obtain ⟨t, rfl⟩ := ry
  obtain ⟨its, r, ⟨⟨cls, dd, data, sl⟩, ho, hc, n, hd⟩, hs⟩ := I.tuple hT
  simp only at hc hd
  subst hc hd
  exact wpAny_binaryOp_repeat_ref (T := "tuple") (U := "int") (by decide) ⟨_, ho, rfl⟩ (fun s' => typeIs_int s' 1 t) noFill_tuple_mul F.fills_int_mul F.slot_int_rmul repeat_tuple F.slot_int_index.lookup
    (call_meets F.slot_int_rmul (typeIs_int s 1 t) F.entry_int_rmul (F.args_int_rmul_2 _ _) (int_rmul_tuple 1 t l its.toArray n dd sl) ⟨ho, rfl, ⟨_, ho, rfl⟩, call_meets F.slot_tuple_mul ⟨_, ho, rfl⟩ F.entry_tuple_mul (F.args_tuple_mul_2 _ _) (tup_mul1 l its.toArray n dd sl t) ⟨ho, ⟨.ref l, H, I, rfl, q⟩⟩⟩)
theorem op_rep0 : OpR X (binaryOp .Mult) (fun x y H Q => ∃ l xs, x = .ref l ∧ y = .int 0 ∧ SqT X.K H l xs ∧ xs ≠ [] ∧ ∀ p, H p = none → Q (.ref p) (upd H p (.tup []))) := by
  intro pins s σ H x y v u Q I rx ry ⟨l, xs, e1, e2, hT, hne, q⟩
  subst e1 e2
  cases rx
  obtain ⟨t, rfl⟩ := ry
  obtain ⟨its, r, ⟨⟨cls, dd, data, sl⟩, ho, hc, n, hd⟩, hs⟩ := I.tuple hT
  simp only at hc hd
  subst hc hd
  have hle : its.length = xs.length := r.length.symm
  have hi : its.toArray.isEmpty = false := by
    cases its with
    | nil => exact absurd (List.eq_nil_of_length_eq_zero hle.symm) hne
    | cons a b => rfl
  exact wpAny_binaryOp_repeat_ref (T := "tuple") (U := "int") (by decide) ⟨_, ho, rfl⟩ (fun s' => typeIs_int s' 0 t) noFill_tuple_mul F.fills_int_mul F.slot_int_rmul repeat_tuple F.slot_int_index.lookup
    (call_meets F.slot_int_rmul (typeIs_int s 0 t) F.entry_int_rmul (F.args_int_rmul_2 _ _) (int_rmul_tuple 0 t l its.toArray n dd sl) ⟨ho, rfl, ⟨_, ho, rfl⟩, call_meets F.slot_tuple_mul ⟨_, ho, rfl⟩ F.entry_tuple_mul (F.args_tuple_mul_2 _ _) (tup_mul0 l its.toArray n dd sl t hi) ⟨ho, ⟨.ref s.heap.objs.size, _, I.laid (t' := s.toks) (o := .tup []) (fun b ob e => Heap.get?_push_of_some _ e) (Nat.le_refl _) ⟨Nat.zero_le _, [], .nil, IsTup.new _ _⟩, rfl, q _ (I.hok.fresh (Nat.le_refl _))⟩⟩⟩)
end
theorem flat_rep {α : Type} (x : α) : ∀ n : Nat, (List.replicate n [x]).flatten = List.replicate n x
  | 0 => rfl
  | n + 1 => by
    rw [List.replicate_succ, List.flatten_cons, flat_rep x n, List.replicate_succ]
    rfl
theorem b_repT {g : G} {b : Bool} {n : Nat} (hn : n ≤ 1000) : BinD g (binaryOp .Mult) (.tup [.bl b]) (nD n) (.d (.tup (List.replicate n (.bl b)))) := by
  have hz' : (sizeLine : Nat) = 16777216 := sizeLine_eq
  have one : ∀ {K : PySem.W.Frag} {β : Option Addr} {F : Hp} {v : V}, Rep K β F (.tup [.bl b]) v → ∃ a, v = .ref a ∧ SqT K F a [.bl b] := fun h => rep_bools (ks := [b]) h
  match n, hn with
  | 0, _ => exact fun X hX => ⟨_, op_rep0 (X := X), fun c ρ B σ H F v w Q R h1 h2 q => by
      obtain ⟨a, rfl, ha⟩ := one h1
      cases h2
      exact ⟨a, [.bl b], rfl, rfl, by rw [hX.hK]; exact Same.seqT R.sub ha, by simp, fun p np => let ⟨R2, e2⟩ := R.new (o := .tup []) np; q _ _ _ R2 e2 (.tup (.inl (.inl upd_same)) (Nat.zero_le _) .nil) apart_d⟩⟩
  | 1, _ => exact fun X hX => ⟨_, op_rep1 (X := X), fun c ρ B σ H F v w Q R h1 h2 q => by
      obtain ⟨a, rfl, ha⟩ := one h1
      cases h2
      exact ⟨a, [.bl b], rfl, rfl, by rw [hX.hK]; exact Same.seqT R.sub ha, q _ _ _ R (Same.refl _) h1 apart_d⟩⟩
  | m + 2, hm => exact fun X hX => ⟨_, op_repT (X := X), fun c ρ B σ H F v w Q R h1 h2 q => by
      obtain ⟨a, rfl, ha⟩ := one h1
      cases h2
      refine ⟨a, ((m + 2 : Nat) : Int), [.bl b], rfl, rfl, by rw [hX.hK]; exact Same.seqT R.sub ha, by simp, by omega, by omega, by simp, fun p np => ?_⟩
      obtain ⟨R2, e2⟩ := R.new (o := .tup (List.replicate ((m + 2 : Nat) : Int).toNat [V.bl b]).flatten) np
      refine q _ _ _ R2 e2 ?_ apart_d
      have e3 : (List.replicate ((m + 2 : Nat) : Int).toNat [V.bl b]).flatten = (List.replicate (m + 2) b).map V.bl := by rw [Int.toNat_natCast, flat_rep, List.map_replicate]
      have e4 : (List.replicate (m + 2) (D.bl b)) = (List.replicate (m + 2) b).map D.bl := by rw [List.map_replicate]
      rw [e4]
      refine .tup (.inl (.inl (by rw [upd_same, e3]))) (by rw [List.length_map, List.length_replicate]; omega) (rep_ofBools _)⟩
end PD
namespace PD
open PySem PySem.Spec PyProof.Rows L2 RZ
open PySem.Sem (wp)
/-! ### a op b op c op d, all true; a cut of a list -/
theorem pt_chain3 {X : Cx} {a b c d : Expr} {pos : Pos} {ta tb tc td : TE} {op1 op2 op3 : CmpOp} {r1 r2 r3 : R2} (h1 : OpR X (compareOp op1) r1) (h2 : OpR X (compareOp op2) r2) (h3 : OpR X (compareOp op3) r3) (ha : PE X a ta) (hb : PE X b tb) (hc : PE X c tc) (hd : PE X d td)
    (hm : lastMarks [op1, op2, op3] [b, c, d] = false := by with_unfolding_all rfl) : PT X (.Compare a [op1, op2, op3] [b, c, d] pos) (fun σ H Q => ta σ H fun x H1 => tb σ H1 fun y H2 => r1 x y H2 fun z H3 => z = .bl true ∧ tc σ H3 fun w H4 => r2 y w H4 fun z2 H5 => z2 = .bl true ∧ td σ H5 fun u H6 => r3 w u H6 fun z3 H7 => z3 = .bl true ∧ Q true H7) := by
  refine ⟨fun pins s σ H Q I h => ?_⟩
  refine isTrue_chain (thn (ha.run pins s σ H _ I h) fun v1 s1 ⟨x, H1, I1, e1, q1⟩ => test_link (thn (hb.run pins s1 σ H1 _ I1 q1) fun v2 s2 ⟨y, H2, I2, e2, q2⟩ =>
    thn (h1 pins s2 σ H2 x y v1 v2 _ I2 e1 e2 q2) fun b1 s3 ⟨z, H3, I3, e3, k1, q3⟩ => ?_)) hm
  subst k1
  cases e3
  refine wpAny_truthy_bool (ite_tt (test_link (thn (hc.run pins s3 σ H3 _ I3 q3) fun v4 s4 ⟨w, H4, I4, e4, q4⟩ => thn (h2 pins s4 σ H4 y w v2 v4 _ I4 e2 e4 q4) fun b2 s5 ⟨z2, H5, I5, e5, k2, q5⟩ => ?_)))
  subst k2
  cases e5
  refine wpAny_truthy_bool (ite_tt (test_last (thn (hd.run pins s5 σ H5 _ I5 q5) fun v6 s6 ⟨u, H6, I6, e6, q6⟩ => thn (h3 pins s6 σ H6 w u v4 v6 _ I6 e4 e6 q6) fun b3 s7 ⟨z3, H7, I7, e7, k3, q7⟩ => ?_)))
  subst k3
  cases e7
  exact wpAny_truthy_bool ⟨H7, I7, q7⟩
section
variable {g : G} {ρ : Rho} {B B1 B2 B3 B4 : Bag} {a b c d : Expr} {pos : Pos} {x y z w : D}
theorem ts_chain3 {op1 op2 op3 : CmpOp} (h1 : BinD g (compareOp op1) x y (.d (.bl true))) (h2 : BinD g (compareOp op2) y z (.d (.bl true))) (h3 : BinD g (compareOp op3) z w (.d (.bl true))) (ha : Ev g a ρ B x B1) (hb : Ev g b ρ B1 y B2) (hc : Ev g c ρ B2 z B3) (hd : Ev g d ρ B3 w B4)
    (hm : lastMarks [op1, op2, op3] [b, c, d] = false := by with_unfolding_all rfl) : Ts g (.Compare a [op1, op2, op3] [b, c, d] pos) ρ B true B4 := by
  refine ⟨fun X hX => ?_⟩
  obtain ⟨r1, o1, p1⟩ := h1 X hX
  obtain ⟨r2, o2, p2⟩ := h2 X hX
  obtain ⟨r3, o3, p3⟩ := h3 X hX
  refine PT.imp (pt_chain3 o1 o2 o3 (ha.h X hX) (hb.h X hX) (hc.h X hX) (hd.h X hX) hm) fun σ H Q ⟨c, F, R, q⟩ => ⟨c, F, R, fun v1 H1 F1 R1 e1 k1 _ => ⟨c, F1, R1, fun v2 H2 F2 R2 e2 k2 _ => ?_⟩⟩
  refine p1 c ρ B2 σ H2 F2 v1 v2 _ R2 (Rep.mono e2 k1) k2 fun u3 H3 F3 R3 e3 k3 _ => ?_
  cases k3
  refine ⟨rfl, c, F3, R3, fun v4 H4 F4 R4 e4 k4 _ => ?_⟩
  refine p2 c ρ B3 σ H4 F4 v2 v4 _ R4 (Rep.mono (e3.trans e4) k2) k4 fun u5 H5 F5 R5 e5 k5 _ => ?_
  cases k5
  refine ⟨rfl, c, F5, R5, fun v6 H6 F6 R6 e6 k6 _ => ?_⟩
  refine p3 c ρ B4 σ H6 F6 v4 v6 _ R6 (Rep.mono (e5.trans e6) k4) k6 fun u7 H7 F7 R7 e7 k7 _ => ?_
  cases k7
  exact ⟨rfl, q H7 F7 R7 ((((((e1.trans e2).trans e3).trans e4).trans e5).trans e6).trans e7)⟩
theorem evr_slL {ds : List D} {lo hi : Option Expr} {l u : Option Int} {p2 : Pos} (ha : Ev g a ρ B (.lst ds) B1) (hl : Po g lo ρ B1 l B2) (hu : Po g hi ρ B2 u B3) : EvR g (.Subscript a (.Slice lo hi none p2) pos) ρ B (.o (.l (cutD ds l u))) B3 := by
  refine ⟨fun X hX => ?_⟩
  obtain ⟨tl, pl, ql⟩ := hl.h X hX
  obtain ⟨tu, pu, qu⟩ := hu.h X hX
  refine PE.imp (pe_slice sl_list (ha.h X hX) pl pu) fun σ H Q ⟨c, F, R, q⟩ => ⟨c, F, R, fun v H1 F1 R1 e1 h1 _ => ql c σ H1 F1 _ R1 fun H2 F2 R2 e2 => qu c σ H2 F2 _ R2 fun H3 F3 R3 e3 => ?_⟩
  have hh : Rep g.T.K c.β F3 (.lst ds) v := Rep.mono (e2.trans e3) h1
  clear h1
  cases hh with
  | lst h1 h2 h3 => exact ⟨_, _, rfl, by rw [hX.hK]; exact SqL.sub R3.sub h1, fun p np => q _ _ F3 (R3.newO np) ((e1.trans e2).trans e3) ⟨p, rfl, OwnAt.new' R3 np ⟨_, rfl, Nat.le_trans (cutV_length _ _ _) h2, cutD_rep h3⟩⟩ (R3.apart np)⟩
theorem ev_slL {ds : List D} {lo hi : Option Expr} {l u : Option Int} {p2 : Pos} (ha : Ev g a ρ B (.lst ds) B1) (hl : Po g lo ρ B1 l B2) (hu : Po g hi ρ B2 u B3) : Ev g (.Subscript a (.Slice lo hi none p2) pos) ρ B (.lst (cutD ds l u)) B3 := (evr_slL ha hl hu).fz
end
end PD
namespace PD
open PySem PySem.Spec PyProof.Rows L2 RZ
local macro_rules | `(tactic| walk_at "vis") => `(tactic| first | exact Or.inl rfl | exact Or.inr (Or.inl rfl) | exact Or.inr (Or.inr rfl))
local macro_rules | `(tactic| walk_at "blk") => `(tactic| (first | decide +kernel | (dsimp only [fnG, blkG]; decide +kernel)))
local macro_rules | `(tactic| walk_at "nm") => `(tactic| exact ev_nm rfl (by walk_at "vis") rfl)
local macro_rules | `(tactic| walk_at "st") => `(tactic| exact ⟨rfl, by first | exact Or.inl rfl | exact Or.inr rfl, by first | exact Or.inl rfl | exact Or.inr rfl⟩)
def topS (i : Nat) : Stmt := PySem.Challenge.pw_paidsecond_k04_whole_many_folk.main.body.getD i (.Pass ⟨0, 0, 0, 0⟩)
structure Sale where
  win : Nat
  price : Int
  others : List Nat
def Sale.d (s : Sale) : D := .tup [nD s.win, .int s.price, .tup (s.others.map nD)]
def logD (l : List Sale) : D := .tup (l.map Sale.d)
def bD (b : Int × Int) : D := .tup [.int b.1, .int b.2]
structure SaleOk (folk : Nat) (top : Int) (s : Sale) : Prop where
  win : s.win < folk
  p1 : 1 ≤ s.price
  pt : s.price ≤ top
  ne : s.others ≠ []
  lt : ∀ w ∈ s.others, w < folk
  up : s.others.Pairwise (· < ·)
  nw : s.win ∉ s.others
structure LogOk (folk : Nat) (top : Int) (l : List Sale) : Prop where
  f2 : 2 ≤ folk
  f8 : folk ≤ 8
  t1 : 1 ≤ top
  tt : top ≤ 1000
  n8 : l.length ≤ 8
  ok : ∀ s ∈ l, SaleOk folk top s
theorem rising_len : ∀ (os : List Nat) (lo folk : Nat), os.Pairwise (· < ·) → (∀ w ∈ os, lo ≤ w ∧ w < folk) → os.length ≤ folk - lo
  | [], _, _, _, _ => Nat.zero_le _
  | o :: os, lo, folk, hp, hl => by
    have h0 := hl o List.mem_cons_self
    have := rising_len os (o + 1) folk (List.pairwise_cons.mp hp).2 fun w hw => ⟨(List.pairwise_cons.mp hp).1 w hw, (hl w (List.mem_cons_of_mem _ hw)).2⟩
    rw [List.length_cons]
    omega
theorem SaleOk.len {folk : Nat} {top : Int} {s : Sale} (h : SaleOk folk top s) : s.others.length ≤ folk := by
  have := rising_len s.others 0 folk h.up fun w hw => ⟨Nat.zero_le _, h.lt w hw⟩
  omega
def wonAt (l : List Sale) (w : Nat) : Int := maxO ((l.filter fun s => decide (s.win = w)).map Sale.price) 1
def lostAt (top : Int) (l : List Sale) (w : Nat) : Int := minO ((l.filter fun s => decide (w ∈ s.others)).map Sale.price) top
def boundsOf (folk : Nat) (top : Int) (l : List Sale) : List (Int × Int) := (List.range folk).map fun w => (wonAt l w, lostAt top l w)
def hiOf (bs : List (Int × Int)) (w : Nat) : Int := (bs.getD w (0, 0)).2
def loOf (bs : List (Int × Int)) (w : Nat) : Int := (bs.getD w (0, 0)).1
def settersOf (s : Sale) (bs : List (Int × Int)) : List Nat := s.others.filter fun w => decide (hiOf bs w = s.price)
def canBe (folk : Nat) (top : Int) (l : List Sale) : Bool := ((boundsOf folk top l).map fun b => decide (b.1 ≤ b.2)).all id && (l.map fun s => !decide (settersOf s (boundsOf folk top l) = [])).all id
theorem bs_get {bs : List (Int × Int)} {w : Nat} (h : w < bs.length) : (bs.map bD)[w]? = some (bD (loOf bs w, hiOf bs w)) := by
  rw [List.getElem?_map, List.getElem?_eq_getElem h]
  simp [loOf, hiOf, List.getD, List.getElem?_eq_getElem h]
theorem bounds_len {folk : Nat} {top : Int} {l : List Sale} : (boundsOf folk top l).length = folk := by unfold boundsOf; rw [List.length_map, List.length_range]

abbrev s_is_whole : Stmt := topS 11
abbrev n_is_whole : List Str := ["thing"]
theorem sc_is_whole : FnScope n_is_whole ["thing"] (defScope s_is_whole) := ⟨rfl, rfl, rfl, by decide +kernel, rfl, by decide +kernel, by decide +kernel⟩
def C_is_whole : Con := fun ds B r B' => ∃ d, d.plain = true ∧ ds = [d] ∧ r = .d (.bl (d.isInt && !d.isBl)) ∧ B' = B
theorem has_is_whole {T : Top} {f : Addr} {fd : FuncData} (bl : Bl T) (F : Fun T.K "is_whole" "is_whole" s_is_whole f fd) (hm : T.mg "is_whole" = some (.ref f)) : HasFn T 1 "is_whole" C_is_whole := by
  refine fn_ok F sc_is_whole hm (F.binds fun _ _ _ _ _ _ us hl => match us, hl with | [_], _ => rfl) (fun ds B r B' ⟨d, _, h, _⟩ => by rw [h]; rfl) fun ds B r B' ⟨d, h1, h2, h3, h4⟩ => ?_
  subst h2 h3 h4
  exact exs_one (ex_ret (ev_and (ev_isi bl (isi_int (D.plain.ty h1)) bl.int bt_int (by walk_at "nm")) (fun _ => ev_one (ev_not (ev_isi bl (isi_bool (D.plain.ty h1)) bl.bool bt_bool (by walk_at "nm")))) fun _ => rfl) ⟨rfl, rfl⟩)
abbrev s_is_within : Stmt := topS 12
abbrev n_is_within : List Str := ["thing", "low", "high"]
theorem sc_is_within : FnScope n_is_within ["thing", "low", "high"] (defScope s_is_within) := ⟨rfl, rfl, rfl, by decide +kernel, rfl, by decide +kernel, by decide +kernel⟩
def inR (d : D) (a b : Int) : Bool := match d with
  | .int i => decide (a ≤ i) && decide (i ≤ b)
  | _ => false
def C_is_within : Con := fun ds B r B' => ∃ d a b, d.plain = true ∧ ds = [d, .int a, .int b] ∧ r = .d (.bl (inR d a b)) ∧ B' = B
theorem has_is_within {T : Top} {f : Addr} {fd : FuncData} (H : HasFn T 1 "is_whole" C_is_whole) (F : Fun T.K "is_within" "is_within" s_is_within f fd) (hm : T.mg "is_within" = some (.ref f)) : HasFn T 2 "is_within" C_is_within := by
  refine fn_ok F sc_is_within hm (F.binds fun _ _ _ _ _ _ us hl => match us, hl with | [_, _, _], _ => rfl) (fun ds B r B' ⟨d, a, b, _, h, _⟩ => by rw [h]; rfl) fun ds B r B' ⟨d, a, b, h1, h2, h3, h4⟩ => ?_
  subst h2 h3 h4
  have call : ∀ z, EvR (fnG T n_is_within s_is_within 1) (.Call (.Name "is_whole" z) [.Name "thing" z] [] z) (startR n_is_within [d, .int a, .int b]) B' (.d (.bl (d.isInt && !d.isBl))) B' := fun z => ev_call H (Nat.le_refl _) rfl (evs_cons (by walk_at "nm") evs_nil) ⟨d, h1, rfl, rfl, rfl⟩
  have e : inR d a b = ((d.isInt && !d.isBl) && inR d a b) := by cases d <;> simp [inR, D.isInt, D.isBl]
  rw [e]
  refine exs_one (ex_ret (ev_and (ev_call H (Nat.le_refl _) rfl (evs_cons (by walk_at "nm") evs_nil) ⟨d, h1, rfl, rfl, rfl⟩) (fun h => ev_one ?_) fun _ => rfl) ⟨rfl, rfl⟩)
  cases d <;> simp [D.isInt, D.isBl] at h
  exact ev_chain c_le c_le (by walk_at "nm") (by walk_at "nm") (fun _ => (by walk_at "nm")) fun _ => rfl
abbrev s_are_some : Stmt := topS 13
abbrev n_are_some : List Str := ["folk", "thing", "least", "one", "other"]
theorem sc_are_some : FnScope n_are_some ["folk", "thing", "least"] (defScope s_are_some) := ⟨rfl, rfl, rfl, by decide +kernel, rfl, by decide +kernel, by decide +kernel⟩
def C_are_some : Con := fun ds B r B' => ∃ (folk : Nat) (os : List Nat) (k : Nat), ds = [nD folk, .tup (os.map nD), nD k] ∧ k ≤ os.length ∧ os.length ≤ 1000 ∧ (∀ w ∈ os, w < folk) ∧ os.Pairwise (· < ·) ∧ r = .d (.bl true) ∧ B' = B
theorem pair_zip : ∀ (os : List Nat), os.Pairwise (· < ·) → ((os.zip (os.drop 1)).map fun p => decide (p.1 < p.2)).all id = true
  | [], _ => rfl
  | [_], _ => rfl
  | a :: b :: os, h => by
    have h2 := List.pairwise_cons.mp h
    have ih := pair_zip (b :: os) h2.2
    have h3 := h2.1 b List.mem_cons_self
    simp at ih ⊢
    exact ⟨h3, ih⟩
theorem all_true {α : Type} {xs : List α} {q : α → Bool} (h : ∀ a ∈ xs, q a = true) : (xs.map q).all id = true := by
  simp
  exact h
theorem has_are_some {T : Top} {f : Addr} {fd : FuncData} (bl : Bl T) (H : HasFn T 2 "is_within" C_is_within) (F : Fun T.K "are_some" "are_some" s_are_some f fd) (hm : T.mg "are_some" = some (.ref f)) : HasFn T 3 "are_some" C_are_some := by
  refine fn_ok F sc_are_some hm (F.binds fun _ _ _ _ _ _ us hl => match us, hl with | [_, _, _], _ => rfl) (fun ds B r B' ⟨folk, os, k, h, _⟩ => by rw [h]; rfl) fun ds B r B' ⟨folk, os, k, h1, h2, h3, h4, h5, h6, h7⟩ => ?_
  subst h1 h6 h7
  refine exs_cons (ex_skip (B1 := B') ?t ?_)
  case t =>
    have e1 : (xs : List Nat) → xs = os → (xs.map fun w => inR (nD w) 0 (folk - 1)).all id = true := fun xs e => all_true fun w hw => by
      have := h4 w (e ▸ hw)
      simp [inR, nD]
      omega
    have := e1 os rfl
    refine Tw.ts (tw_or (k := false) (ts_not (k := true) (ts_val (ev_isi bl (isi_tuple rfl) bl.tuple bt_tuple (by walk_at "nm")))) (fun _ => tw_or (k := false) (ts_cmp ?c (ev_len bl (by walk_at "nm") rfl) (by walk_at "nm")) (fun _ => tw_or1 (ts_not (k := true) (ts_val ?d))) fun h => (nomatch h)) fun h => (nomatch h))
    case c =>
      have e : false = decide (((os.map nD).length : Int) < (k : Nat)) := by rw [List.length_map]; exact (decide_eq_false (by omega)).symm
      rw [e]
      exact c_lt
    case d =>
      rw [← this]
      exact ev_all bl (ev_lcE (own := [("one", 3)]) nD .bl (fun w => inR (nD w) 0 (folk - 1)) os (it_seq (by walk_at "nm") rfl) (by walk_at "blk") rfl (by omega) fun w hw => lcp0 (tg_name (i := 3) (by walk_at "st")) (ev_call H (by show 2 ≤ 2; omega) rfl (evs_cons (by walk_at "nm") (evs_cons ev_int (evs_cons (ev_bin b_sub (by walk_at "nm") ev_int) evs_nil))) ⟨_, _, _, rfl, rfl, rfl, rfl⟩))
  rw [show true = _ from (pair_zip os h5).symm]
  refine exs_one (ex_ret (ev_all bl (ev_lcE (own := [("one", 3), ("other", 4)]) (fun p : Nat × Nat => .tup [nD p.1, nD p.2]) .bl (fun p => decide (p.1 < p.2)) (os.zip (os.drop 1)) (by rw [← zip_tail, ← cutD_one]; exact it_zipT rfl bl.zip (by walk_at "nm") (ev_slT (by walk_at "nm") (po_so ev_int) po_no)) (by walk_at "blk") rfl (by rw [List.length_zip]; omega) fun p hp => ?_)) ⟨rfl, rfl⟩)
  have e : decide (p.1 < p.2) = decide ((p.1 : Int) < (p.2 : Int)) := decide_eq_decide.mpr (by omega)
  rw [e]
  exact lcp0 (tg_tup (tgs_cons (tg_name (i := 3) (by walk_at "st")) (tgs_cons (tg_name (i := 4) (by walk_at "st")) tgs_nil))) (ev_cmp c_lt (by walk_at "nm") (by walk_at "nm"))
structure Mst (T : Top) : Prop where
  folk : ∃ t, T.mg "MOST_FOLK" = some (.int 8 t)
  top : ∃ t, T.mg "MOST_TOP" = some (.int 1000 t)
  sales : ∃ t, T.mg "MOST_SALES" = some (.int 8 t)
abbrev s_is_sale : Stmt := topS 14
abbrev n_is_sale : List Str := ["folk", "top", "thing"]
theorem sc_is_sale : FnScope n_is_sale ["folk", "top", "thing"] (defScope s_is_sale) := ⟨rfl, rfl, rfl, by decide +kernel, rfl, by decide +kernel, by decide +kernel⟩
def C_is_sale : Con := fun ds B r B' => ∃ (folk : Nat) (top : Int) (s : Sale), folk ≤ 1000 ∧ SaleOk folk top s ∧ ds = [nD folk, .int top, s.d] ∧ r = .d (.bl true) ∧ B' = B
theorem inR_t {i a b : Int} (h1 : a ≤ i) (h2 : i ≤ b) : inR (.int i) a b = true := by simp [inR, h1, h2]
theorem has_is_sale {T : Top} {f : Addr} {fd : FuncData} (bl : Bl T) (H : HasFn T 2 "is_within" C_is_within) (H2 : HasFn T 3 "are_some" C_are_some) (F : Fun T.K "is_sale" "is_sale" s_is_sale f fd) (hm : T.mg "is_sale" = some (.ref f)) : HasFn T 4 "is_sale" C_is_sale := by
  refine fn_ok F sc_is_sale hm (F.binds fun _ _ _ _ _ _ us hl => match us, hl with | [_, _, _], _ => rfl) (fun ds B r B' ⟨folk, top, s, _, _, h, _⟩ => by rw [h]; rfl) fun ds B r B' ⟨folk, top, s, hf, ok, h1, h2, h3⟩ => ?_
  subst h1 h2 h3
  have hw := ok.win
  have e0 : inR (nD s.win) 0 ((folk : Nat) - 1) = true := inR_t (by omega) (by omega)
  have e1 : inR (.int s.price) 1 top = true := inR_t ok.p1 ok.pt
  have e2 : (!decide (s.win ∈ s.others)) = true := by simp [ok.nw]
  refine exs_cons (ex_skip (B1 := B') (Tw.ts (tw_or (k := false) (ts_not (k := true) (ts_val (ev_isi bl (isi_tuple rfl) bl.tuple bt_tuple (by walk_at "nm")))) (fun _ => tw_or (k := false) (ts_cmp ?cc (ev_len bl (by walk_at "nm") rfl) ev_int) (fun _ => tw_or1 (k := false) (ts_not (k := true) (ts_val ?d))) fun h => (nomatch h)) fun h => (nomatch h))) ?_)
  · exact c_neI (i := 3) (j := 3)
  · rw [← e0]
    exact ev_call H (by show 2 ≤ 3; omega) rfl (evs_cons (ev_ixN (i := 0) (by walk_at "nm") ev_int rfl rfl) (evs_cons ev_int (evs_cons (ev_bin b_sub (by walk_at "nm") ev_int) evs_nil))) ⟨_, _, _, rfl, rfl, rfl, rfl⟩
  · refine exs_one (ex_ret (ev_andT ?a (ev_andT ?b (ev_one ?c))) ⟨rfl, rfl⟩)
    · rw [← e1]
      exact ev_call H (by show 2 ≤ 3; omega) rfl (evs_cons (ev_ixN (i := 1) (by walk_at "nm") ev_int rfl rfl) (evs_cons ev_int (evs_cons (by walk_at "nm") evs_nil))) ⟨_, _, _, rfl, rfl, rfl, rfl⟩
    · exact ev_call H2 (Nat.le_refl _) rfl (evs_cons (by walk_at "nm") (evs_cons (ev_ixN (i := 2) (by walk_at "nm") ev_int rfl rfl) (evs_cons ev_int evs_nil))) ⟨folk, s.others, 1, rfl, List.length_pos_iff.mpr ok.ne, Nat.le_trans ok.len hf, ok.lt, ok.up, rfl, rfl⟩
    · rw [← e2]
      exact ev_cmp (c_notInN rfl) (ev_ixN (i := 0) (by walk_at "nm") ev_int rfl rfl) (ev_ixN (i := 2) (by walk_at "nm") ev_int rfl rfl)
abbrev s_look_at_market : Stmt := topS 15
abbrev n_look_at_market : List Str := ["folk", "top"]
theorem sc_look_at_market : FnScope n_look_at_market ["folk", "top"] (defScope s_look_at_market) := ⟨rfl, rfl, rfl, by decide +kernel, rfl, by decide +kernel, by decide +kernel⟩
def C_look_at_market : Con := fun ds B r B' => ∃ (folk : Nat) (top : Int), 2 ≤ folk ∧ folk ≤ 8 ∧ 1 ≤ top ∧ top ≤ 1000 ∧ ds = [nD folk, .int top] ∧ r = .d .non ∧ B' = B
theorem has_look_at_market {T : Top} {f : Addr} {fd : FuncData} (ms : Mst T) (H : HasFn T 2 "is_within" C_is_within) (F : Fun T.K "look_at_market" "look_at_market" s_look_at_market f fd) (hm : T.mg "look_at_market" = some (.ref f)) : HasFn T 3 "look_at_market" C_look_at_market := by
  refine fn_ok F sc_look_at_market hm (F.binds fun _ _ _ _ _ _ us hl => match us, hl with | [_, _], _ => rfl) (fun ds B r B' ⟨folk, top, _, _, _, _, h, _⟩ => by rw [h]; rfl) fun ds B r B' ⟨folk, top, g1, g2, g3, g4, h1, h2, h3⟩ => ?_
  subst h1 h2 h3
  obtain ⟨t1, m1⟩ := ms.folk
  obtain ⟨t2, m2⟩ := ms.top
  have e0 : inR (nD folk) 2 8 = true := inR_t (by omega) (by omega)
  have e1 : inR (.int top) 1 1000 = true := inR_t g3 g4
  refine exs_cons (ex_skip (B1 := B') (ts_not (k := true) (ts_val ?a)) (exs_one (ex_skip (B1 := B') (ts_not (k := true) (ts_val ?b)) ⟨rfl, rfl⟩)))
  · rw [← e0]
    exact ev_call H (by show 2 ≤ 2; omega) rfl (evs_cons (by walk_at "nm") (evs_cons ev_int (evs_cons (ev_globI rfl m1) evs_nil))) ⟨_, _, _, rfl, rfl, rfl, rfl⟩
  · rw [← e1]
    exact ev_call H (by show 2 ≤ 2; omega) rfl (evs_cons (by walk_at "nm") (evs_cons ev_int (evs_cons (ev_globI rfl m2) evs_nil))) ⟨_, _, _, rfl, rfl, rfl, rfl⟩
abbrev s_is_log_of : Stmt := topS 16
abbrev n_is_log_of : List Str := ["folk", "top", "thing", "one"]
theorem sc_is_log_of : FnScope n_is_log_of ["folk", "top", "thing"] (defScope s_is_log_of) := ⟨rfl, rfl, rfl, by decide +kernel, rfl, by decide +kernel, by decide +kernel⟩
def C_is_log_of : Con := fun ds B r B' => ∃ (folk : Nat) (top : Int) (l : List Sale), LogOk folk top l ∧ ds = [nD folk, .int top, logD l] ∧ r = .d (.bl true) ∧ B' = B
theorem has_is_log_of {T : Top} {f : Addr} {fd : FuncData} (bl : Bl T) (ms : Mst T) (H : HasFn T 4 "is_sale" C_is_sale) (F : Fun T.K "is_log_of" "is_log_of" s_is_log_of f fd) (hm : T.mg "is_log_of" = some (.ref f)) : HasFn T 5 "is_log_of" C_is_log_of := by
  refine fn_ok F sc_is_log_of hm (F.binds fun _ _ _ _ _ _ us hl => match us, hl with | [_, _, _], _ => rfl) (fun ds B r B' ⟨folk, top, l, _, h, _⟩ => by rw [h]; rfl) fun ds B r B' ⟨folk, top, l, ok, h1, h2, h3⟩ => ?_
  subst h1 h2 h3
  obtain ⟨t1, m1⟩ := ms.sales
  have n8 := ok.n8
  have f8 := ok.f8
  have e0 : decide ((((l.map Sale.d).length : Nat) : Int) ≤ 8) = true := decide_eq_true (by rw [List.length_map]; omega)
  have e1 : (l.map fun _ => true).all id = true := all_true fun _ _ => rfl
  refine exs_one (ex_ret (ev_andT (ev_isi bl (isi_tuple rfl) bl.tuple bt_tuple (by walk_at "nm")) (ev_andT ?b (ev_one ?c))) ⟨rfl, rfl⟩)
  · rw [← e0]
    exact ev_cmp c_le (ev_len bl (by walk_at "nm") rfl) (ev_globI rfl m1)
  · rw [← e1]
    exact ev_all bl (ev_lcE (own := [("one", 3)]) Sale.d .bl (fun _ => true) l (it_seq (by walk_at "nm") rfl) (by walk_at "blk") rfl (by omega) fun s hs => lcp0 (tg_name (i := 3) (by walk_at "st")) (ev_call H (by show 4 ≤ 4; omega) rfl (evs_cons (by walk_at "nm") (evs_cons (by walk_at "nm") (evs_cons (by walk_at "nm") evs_nil))) ⟨folk, top, s, by omega, ok.ok s hs, rfl, rfl, rfl⟩))
abbrev s_look_at : Stmt := topS 17
abbrev n_look_at : List Str := ["folk", "top", "log"]
theorem sc_look_at : FnScope n_look_at ["folk", "top", "log"] (defScope s_look_at) := ⟨rfl, rfl, rfl, by decide +kernel, rfl, by decide +kernel, by decide +kernel⟩
def C_look_at : Con := fun ds B r B' => ∃ (folk : Nat) (top : Int) (l : List Sale), LogOk folk top l ∧ ds = [nD folk, .int top, logD l] ∧ r = .d .non ∧ B' = B
theorem has_look_at {T : Top} {f : Addr} {fd : FuncData} (H : HasFn T 3 "look_at_market" C_look_at_market) (H2 : HasFn T 5 "is_log_of" C_is_log_of) (F : Fun T.K "look_at" "look_at" s_look_at f fd) (hm : T.mg "look_at" = some (.ref f)) : HasFn T 6 "look_at" C_look_at := by
  refine fn_ok F sc_look_at hm (F.binds fun _ _ _ _ _ _ us hl => match us, hl with | [_, _, _], _ => rfl) (fun ds B r B' ⟨folk, top, l, _, h, _⟩ => by rw [h]; rfl) fun ds B r B' ⟨folk, top, l, ok, h1, h2, h3⟩ => ?_
  subst h1 h2 h3
  refine exs_cons (ex_expr (ev_call H (by show 3 ≤ 5; omega) rfl (evs_cons (by walk_at "nm") (evs_cons (by walk_at "nm") evs_nil)) ⟨folk, top, ok.f2, ok.f8, ok.t1, ok.tt, rfl, rfl, rfl⟩) ?_)
  exact exs_one (ex_skip (B1 := B') (ts_not (k := true) (ts_val (ev_call H2 (by show 5 ≤ 5; omega) rfl (evs_cons (by walk_at "nm") (evs_cons (by walk_at "nm") (evs_cons (by walk_at "nm") evs_nil))) ⟨folk, top, l, ok, rfl, rfl, rfl⟩))) ⟨rfl, rfl⟩)
abbrev s_won_at : Stmt := topS 19
abbrev n_won_at : List Str := ["log", "who", "winner", "price", "others"]
theorem sc_won_at : FnScope n_won_at ["log", "who"] (defScope s_won_at) := ⟨rfl, rfl, rfl, by decide +kernel, rfl, by decide +kernel, by decide +kernel⟩
def C_won_at : Con := fun ds B r B' => ∃ (l : List Sale) (w : Nat), l.length ≤ 1000 ∧ ds = [logD l, nD w] ∧ r = .d (.int (wonAt l w)) ∧ B' = B
theorem has_won_at {T : Top} {f : Addr} {fd : FuncData} (bl : Bl T) (F : Fun T.K "won_at" "won_at" s_won_at f fd) (hm : T.mg "won_at" = some (.ref f)) : HasFn T 1 "won_at" C_won_at := by
  refine fn_ok F sc_won_at hm (F.binds fun _ _ _ _ _ _ us hl => match us, hl with | [_, _], _ => rfl) (fun ds B r B' ⟨l, w, _, h, _⟩ => by rw [h]; rfl) fun ds B r B' ⟨l, w, hl, h1, h2, h3⟩ => ?_
  subst h1 h2 h3
  exact exs_one (ex_ret (ev_maxDef rfl bl.max (ev_lcF (own := [("winner", 2), ("price", 3), ("others", 4)]) Sale.d .int (fun s => decide (s.win = w)) Sale.price l (it_seq (by walk_at "nm") rfl) (by walk_at "blk") rfl (by omega) fun s hs => lcp1 (tg_tup (tgs_cons (tg_name (i := 2) (by walk_at "st")) (tgs_cons (tg_name (i := 3) (by walk_at "st")) (tgs_cons (tg_name (i := 4) (by walk_at "st")) tgs_nil)))) (ts_cmp c_eqN (by walk_at "nm") (by walk_at "nm")) fun _ => (by walk_at "nm")) ev_int) ⟨rfl, rfl⟩)
abbrev s_lost_at : Stmt := topS 20
abbrev n_lost_at : List Str := ["top", "log", "who", "winner", "price", "others"]
theorem sc_lost_at : FnScope n_lost_at ["top", "log", "who"] (defScope s_lost_at) := ⟨rfl, rfl, rfl, by decide +kernel, rfl, by decide +kernel, by decide +kernel⟩
def C_lost_at : Con := fun ds B r B' => ∃ (top : Int) (l : List Sale) (w : Nat), l.length ≤ 1000 ∧ ds = [.int top, logD l, nD w] ∧ r = .d (.int (lostAt top l w)) ∧ B' = B
theorem has_lost_at {T : Top} {f : Addr} {fd : FuncData} (bl : Bl T) (F : Fun T.K "lost_at" "lost_at" s_lost_at f fd) (hm : T.mg "lost_at" = some (.ref f)) : HasFn T 1 "lost_at" C_lost_at := by
  refine fn_ok F sc_lost_at hm (F.binds fun _ _ _ _ _ _ us hl => match us, hl with | [_, _, _], _ => rfl) (fun ds B r B' ⟨top, l, w, _, h, _⟩ => by rw [h]; rfl) fun ds B r B' ⟨top, l, w, hl, h1, h2, h3⟩ => ?_
  subst h1 h2 h3
  exact exs_one (ex_ret (ev_minDef rfl bl.min (ev_lcF (own := [("winner", 3), ("price", 4), ("others", 5)]) Sale.d .int (fun s => decide (w ∈ s.others)) Sale.price l (it_seq (by walk_at "nm") rfl) (by walk_at "blk") rfl (by omega) fun s hs => lcp1 (tg_tup (tgs_cons (tg_name (i := 3) (by walk_at "st")) (tgs_cons (tg_name (i := 4) (by walk_at "st")) (tgs_cons (tg_name (i := 5) (by walk_at "st")) tgs_nil)))) (ts_cmp (c_inN rfl) (by walk_at "nm") (by walk_at "nm")) fun _ => (by walk_at "nm")) (by walk_at "nm")) ⟨rfl, rfl⟩)
abbrev s_bounds : Stmt := topS 21
abbrev n_bounds : List Str := ["folk", "top", "log", "who"]
theorem sc_bounds : FnScope n_bounds ["folk", "top", "log"] (defScope s_bounds) := ⟨rfl, rfl, rfl, by decide +kernel, rfl, by decide +kernel, by decide +kernel⟩
def C_bounds : Con := fun ds B r B' => ∃ (folk : Nat) (top : Int) (l : List Sale), folk ≤ 1000 ∧ l.length ≤ 1000 ∧ ds = [nD folk, .int top, logD l] ∧ r = .o (.l ((boundsOf folk top l).map bD)) ∧ B' = B
theorem has_bounds {T : Top} {f : Addr} {fd : FuncData} (bl : Bl T) (H : HasFn T 1 "won_at" C_won_at) (H2 : HasFn T 1 "lost_at" C_lost_at) (F : Fun T.K "bounds" "bounds" s_bounds f fd) (hm : T.mg "bounds" = some (.ref f)) : HasFn T 2 "bounds" C_bounds := by
  refine fn_ok F sc_bounds hm (F.binds fun _ _ _ _ _ _ us hl => match us, hl with | [_, _, _], _ => rfl) (fun ds B r B' ⟨folk, top, l, _, _, h, _⟩ => by rw [h]; rfl) fun ds B r B' ⟨folk, top, l, hf, hl, h1, h2, h3⟩ => ?_
  subst h1 h2 h3
  refine exs_one (ex_ret (evr_lcE (own := [("who", 3)]) nD bD (fun w => (wonAt l w, lostAt top l w)) (List.range folk) (it_rangeN rfl bl.range (by walk_at "nm") (by omega)) (by walk_at "blk") rfl (by rw [List.length_range]; omega) fun w hw => lcp0 (tg_name (i := 3) (by walk_at "st")) ?_) ⟨rfl, rfl⟩)
  exact ev_tup (evs_cons (ev_call H (by show 1 ≤ 1; omega) rfl (evs_cons (by walk_at "nm") (evs_cons (by walk_at "nm") evs_nil)) ⟨l, w, hl, rfl, rfl, rfl⟩) (evs_cons (ev_call H2 (by show 1 ≤ 1; omega) rfl (evs_cons (by walk_at "nm") (evs_cons (by walk_at "nm") (evs_cons (by walk_at "nm") evs_nil))) ⟨top, l, w, hl, rfl, rfl, rfl⟩) evs_nil))
abbrev s_setters_of : Stmt := topS 22
abbrev n_setters_of : List Str := ["sale", "some", "who"]
theorem sc_setters_of : FnScope n_setters_of ["sale", "some"] (defScope s_setters_of) := ⟨rfl, rfl, rfl, by decide +kernel, rfl, by decide +kernel, by decide +kernel⟩
def C_setters_of : Con := fun ds B r B' => ∃ (s : Sale) (bs : List (Int × Int)), ds = [s.d, .lst (bs.map bD)] ∧ (∀ w ∈ s.others, w < bs.length) ∧ s.others.length ≤ 1000 ∧ r = .o (.l ((settersOf s bs).map nD)) ∧ B' = B
theorem has_setters_of {T : Top} {f : Addr} {fd : FuncData} (F : Fun T.K "setters_of" "setters_of" s_setters_of f fd) (hm : T.mg "setters_of" = some (.ref f)) : HasFn T 1 "setters_of" C_setters_of := by
  refine fn_ok F sc_setters_of hm (F.binds fun _ _ _ _ _ _ us hl => match us, hl with | [_, _], _ => rfl) (fun ds B r B' ⟨s, bs, h, _⟩ => by rw [h]; rfl) fun ds B r B' ⟨s, bs, h1, h2, h3, h4, h5⟩ => ?_
  subst h1 h4 h5
  refine exs_one (ex_ret (evr_lcP (own := [("who", 2)]) s.others nD _ nD (it_seq (ev_ixN (i := 2) (by walk_at "nm") ev_int rfl rfl) rfl) (by walk_at "blk") rfl (by omega) fun w hw => ?_) ⟨rfl, rfl⟩)
  exact lcp1 (tg_name (i := 2) (by walk_at "st")) (ts_cmp c_eqI (ev_ixN (i := 1) (ev_ixN (by walk_at "nm") (by walk_at "nm") rfl (bs_get (h2 w hw))) ev_int rfl rfl) (ev_ixN (i := 1) (by walk_at "nm") ev_int rfl rfl)) fun _ => (by walk_at "nm")
theorem LogOk.sok {folk : Nat} {top : Int} {l : List Sale} (ok : LogOk folk top l) {s : Sale} (hs : s ∈ l) : (∀ w ∈ s.others, w < (boundsOf folk top l).length) ∧ s.others.length ≤ 1000 := by
  have := ok.f8
  have := (ok.ok s hs).len
  exact ⟨fun w hw => by rw [bounds_len]; exact (ok.ok s hs).lt w hw, by omega⟩
abbrev s_can_be_so : Stmt := topS 23
abbrev n_can_be_so : List Str := ["folk", "top", "log", "some", "sale", "low", "high"]
theorem sc_can_be_so : FnScope n_can_be_so ["folk", "top", "log"] (defScope s_can_be_so) := ⟨rfl, rfl, rfl, by decide +kernel, rfl, by decide +kernel, by decide +kernel⟩
def C_can_be_so : Con := fun ds B r B' => ∃ (folk : Nat) (top : Int) (l : List Sale), LogOk folk top l ∧ ds = [nD folk, .int top, logD l] ∧ r = .d (.bl (canBe folk top l)) ∧ B' = B
theorem has_can_be_so {T : Top} {f : Addr} {fd : FuncData} (bl : Bl T) (H : HasFn T 2 "bounds" C_bounds) (H2 : HasFn T 1 "setters_of" C_setters_of) (F : Fun T.K "can_be_so" "can_be_so" s_can_be_so f fd) (hm : T.mg "can_be_so" = some (.ref f)) : HasFn T 3 "can_be_so" C_can_be_so := by
  refine fn_ok F sc_can_be_so hm (F.binds fun _ _ _ _ _ _ us hl => match us, hl with | [_, _, _], _ => rfl) (fun ds B r B' ⟨folk, top, l, _, h, _⟩ => by rw [h]; rfl) fun ds B r B' ⟨folk, top, l, ok, h1, h2, h3⟩ => ?_
  subst h1 h2 h3
  have n8 := ok.n8
  have f8 := ok.f8
  refine exs_cons (ex_set (i := 3) (by walk_at "st") (EvR.fz (ev_call H (by show 2 ≤ 2; omega) rfl (evs_cons (by walk_at "nm") (evs_cons (by walk_at "nm") (evs_cons (by walk_at "nm") evs_nil))) ⟨folk, top, l, by omega, by omega, rfl, rfl, rfl⟩)) ?_ ?sw)
  case sw =>
    intro env he
    rfl
  refine exs_one (ex_ret (ev_and (ev_all bl (ev_lcE (own := [("low", 5), ("high", 6)]) bD .bl (fun b => decide (b.1 ≤ b.2)) (boundsOf folk top l) (it_seq (by walk_at "nm") rfl) (by walk_at "blk") rfl (by rw [bounds_len]; omega) fun b hb => lcp0 (tg_tup (tgs_cons (tg_name (i := 5) (by walk_at "st")) (tgs_cons (tg_name (i := 6) (by walk_at "st")) tgs_nil))) (ev_cmp c_le (by walk_at "nm") (by walk_at "nm"))))
    (fun _ => ev_one (ev_all bl (ev_lcE (own := [("sale", 4)]) Sale.d .bl (fun s => !decide (settersOf s (boundsOf folk top l) = [])) l (it_seq (by walk_at "nm") rfl) (by walk_at "blk") rfl (by omega) fun s hs => lcp0 (tg_name (i := 4) (by walk_at "st")) ?_))) fun _ => rfl) ⟨rfl, rfl⟩)
  exact ev_cmp (c_neL (g := blkG _ _) (xs := settersOf s (boundsOf folk top l)) (ys := [])) (EvR.fz (ct := .l ((settersOf s (boundsOf folk top l)).map nD)) (ev_call H2 (by show 1 ≤ 2; omega) rfl (evs_cons (by walk_at "nm") (evs_cons (by walk_at "nm") evs_nil)) ⟨s, _, rfl, (ok.sok hs).1, (ok.sok hs).2, rfl, rfl⟩)) (ev_lst evs_nil)
theorem map_get {α : Type} {xs : List α} {f : α → D} {i : Nat} {d : D} (h : (xs.map f)[i]? = some d) : ∃ x, xs[i]? = some x ∧ d = f x ∧ x ∈ xs ∧ i < xs.length ∧ xs.take (i + 1) = xs.take i ++ [x] := by
  rw [List.getElem?_map] at h
  obtain ⟨x, h1, h2⟩ := Option.map_eq_some_iff.mp h
  exact ⟨x, h1, h2.symm, List.mem_of_getElem? h1, (List.getElem?_eq_some_iff.mp h1).1, by rw [List.take_succ, h1]; rfl⟩
theorem rev_ind {α : Type} {P : List α → Prop} (h0 : P []) (h1 : ∀ xs x, P xs → P (xs ++ [x])) (xs : List α) : P xs := by
  rw [← List.reverse_reverse xs]
  induction xs.reverse with
  | nil => exact h0
  | cons a l ih => rw [List.reverse_cons]; exact h1 _ _ ih
def lotD (l : List Nat) : D := .tup (l.map nD)
def lotsOf (xs : List Nat) : List (List Nat) := xs.foldl (fun f x => f ++ f.map (· ++ [x])) [[]]
theorem lotsOf_snoc (xs : List Nat) (x : Nat) : lotsOf (xs ++ [x]) = lotsOf xs ++ (lotsOf xs).map (· ++ [x]) := by unfold lotsOf; rw [List.foldl_append]; rfl
theorem sub_one {l : List Nat} {x : Nat} (h : l.Sublist [x]) : l = [] ∨ l = [x] := by
  cases h with
  | cons _ h => exact .inl (List.sublist_nil.mp h)
  | cons_cons _ h => rw [List.sublist_nil.mp h]; exact .inr rfl
theorem lotsOf_mem (xs : List Nat) : ∀ l, l ∈ lotsOf xs ↔ l.Sublist xs := by
  refine rev_ind (P := fun xs => ∀ l, l ∈ lotsOf xs ↔ l.Sublist xs) (fun l => ?_) (fun xs x ih l => ?_) xs
  · simp [lotsOf]
  · rw [lotsOf_snoc, List.mem_append, List.mem_map, List.sublist_append_iff]
    constructor
    · rintro (h | ⟨m, h, rfl⟩)
      · exact ⟨l, [], by simp, (ih l).mp h, by simp⟩
      · exact ⟨m, [x], rfl, (ih m).mp h, List.Sublist.refl _⟩
    · rintro ⟨l1, l2, rfl, h1, h2⟩
      rcases sub_one h2 with rfl | rfl
      · exact .inl (by simpa using (ih l1).mpr h1)
      · exact .inr ⟨l1, (ih l1).mpr h1, rfl⟩
theorem lotsOf_len (xs : List Nat) : (lotsOf xs).length = 2 ^ xs.length := by
  refine rev_ind (P := fun xs => (lotsOf xs).length = 2 ^ xs.length) rfl (fun xs x ih => ?_) xs
  rw [lotsOf_snoc, List.length_append, List.length_map, ih, List.length_append]
  simp [Nat.pow_succ]
  omega
theorem pow8 {n : Nat} (h : n ≤ 8) : 2 ^ n ≤ 256 := Nat.pow_le_pow_right (by omega) h
abbrev s_lots : Stmt := topS 25
abbrev n_lots : List Str := ["some", "found", "one", "lot"]
theorem sc_lots : FnScope n_lots ["some"] (defScope s_lots) := ⟨rfl, rfl, rfl, by decide +kernel, rfl, by decide +kernel, by decide +kernel⟩
def C_lots : Con := fun ds B r B' => ∃ xs : List Nat, xs.length ≤ 8 ∧ ds = [.lst (xs.map nD)] ∧ r = .d (.lst ((lotsOf xs).map lotD)) ∧ B' = B
theorem has_lots {T : Top} {f : Addr} {fd : FuncData} (F : Fun T.K "lots" "lots" s_lots f fd) (hm : T.mg "lots" = some (.ref f)) : HasFn T 1 "lots" C_lots := by
  refine fn_ok F sc_lots hm (F.binds fun _ _ _ _ _ _ us hl => match us, hl with | [_], _ => rfl) (fun ds B r B' ⟨xs, _, h, _⟩ => by rw [h]; rfl) fun ds B r B' ⟨xs, h8, h1, h2, h3⟩ => ?_
  subst h1 h2 h3
  refine exs_cons (ex_set (i := 1) (by walk_at "st") (ev_lst (evs_cons (ev_tup evs_nil) evs_nil)) ?_ (fun _ _ => rfl))
  refine exs_cons (ex_for (it_seq (by walk_at "nm") rfl) (fun i ρ B => ∃ F, F = lotsOf (xs.take i) ∧ ρ = (startR n_lots [.lst (xs.map nD)]).set 1 (.d (.lst (F.map lotD))) ∧ B = B') ⟨_, rfl, rfl, rfl⟩ (fun i d ρ' B1 hd ⟨F, h1, h2, h3⟩ => ?_) fun ρ' B1 h => ?_)
  · obtain ⟨x, hx, rfl, hm, hi, ht⟩ := map_get hd
    subst h2 h3
    refine ⟨_, _, tg_name (i := 2) (by walk_at "st"), exs_cons (ex_set (i := 1) (by walk_at "st") (ev_catL (xs := F.map lotD) (ys := (F.map (· ++ [x])).map lotD) (by walk_at "nm") (ev_lcE (own := [("lot", 3)]) lotD lotD (· ++ [x]) F (it_seq (by walk_at "nm") rfl) (by walk_at "blk") rfl ?l1 fun l hl => lcp0 (tg_name (i := 3) (by walk_at "st")) ?e) ?l2) (exs_fgt (is := [2, 3]) (exs_nil ⟨F ++ F.map (· ++ [x]), ?a, ?b, rfl⟩)) (fun _ _ => rfl))⟩
    · rw [h1, lotsOf_len, List.length_take]
      exact Nat.le_trans (pow8 (by omega)) (by omega)
    · have e : lotD (l ++ [x]) = .tup (l.map nD ++ [nD x]) := by simp [lotD]
      rw [e]
      refine ev_catT (by walk_at "nm") (ev_tup (evs_cons (by walk_at "nm") evs_nil)) ?_
      rw [h1] at hl
      have := ((lotsOf_mem _ _).mp hl).length_le
      rw [List.length_take] at this
      simp
      omega
    · rw [List.length_map, List.length_map, List.length_map, h1, lotsOf_len, List.length_take]
      have := pow8 (n := min i xs.length) (by omega)
      omega
    · rw [ht, lotsOf_snoc, ← h1]
    · rw [List.map_append]
      rfl
  · obtain ⟨F, h1, h2, h3⟩ := h
    subst h2 h3
    rw [List.length_map, List.take_length] at h1
    subst h1
    exact exs_one (ex_ret (by walk_at "nm") ⟨rfl, rfl⟩)
structure BsOk (bs : List (Int × Int)) (l : List Sale) : Prop where
  b8 : bs.length ≤ 8
  n8 : l.length ≤ 8
  so : ∀ s ∈ l, (∀ w ∈ s.others, w < bs.length) ∧ s.others.length ≤ 1000
theorem bounds_ok {folk : Nat} {top : Int} {l : List Sale} (ok : LogOk folk top l) : BsOk (boundsOf folk top l) l := ⟨by rw [bounds_len]; exact ok.f8, ok.n8, fun s hs => ok.sok hs⟩
def reachesB (l : List Sale) (bs : List (Int × Int)) (p : Int) (lot : List Nat) : Bool := ((l.filter fun s => decide (s.price = p)).map fun s => ((settersOf s bs).map fun w => decide (w ∈ lot)).any id).all id
theorem setters_len {s : Sale} {bs : List (Int × Int)} (h : s.others.length ≤ 1000) : (settersOf s bs).length ≤ 1000 := Nat.le_trans (List.length_filter_le _ _) h
abbrev s_reaches : Stmt := topS 26
abbrev n_reaches : List Str := ["log", "some", "price", "lot", "sale", "who"]
theorem sc_reaches : FnScope n_reaches ["log", "some", "price", "lot"] (defScope s_reaches) := ⟨rfl, rfl, rfl, by decide +kernel, rfl, by decide +kernel, by decide +kernel⟩
def C_reaches : Con := fun ds B r B' => ∃ (l : List Sale) (bs : List (Int × Int)) (p : Int) (lot : List Nat), BsOk bs l ∧ ds = [logD l, .lst (bs.map bD), .int p, lotD lot] ∧ r = .d (.bl (reachesB l bs p lot)) ∧ B' = B
theorem has_reaches {T : Top} {f : Addr} {fd : FuncData} (bl : Bl T) (H : HasFn T 1 "setters_of" C_setters_of) (F : Fun T.K "reaches" "reaches" s_reaches f fd) (hm : T.mg "reaches" = some (.ref f)) : HasFn T 2 "reaches" C_reaches := by
  refine fn_ok F sc_reaches hm (F.binds fun _ _ _ _ _ _ us hl => match us, hl with | [_, _, _, _], _ => rfl) (fun ds B r B' ⟨l, bs, p, lot, _, h, _⟩ => by rw [h]; rfl) fun ds B r B' ⟨l, bs, p, lot, ok, h1, h2, h3⟩ => ?_
  subst h1 h2 h3
  have n8 := ok.n8
  refine exs_one (ex_ret (ev_all bl (ev_lcF (own := [("sale", 4)]) Sale.d .bl (fun s => decide (s.price = p)) (fun s => ((settersOf s bs).map fun w => decide (w ∈ lot)).any id) l (it_seq (by walk_at "nm") rfl) (by walk_at "blk") rfl (by omega) fun s hs => lcp1 (tg_name (i := 4) (by walk_at "st")) (ts_cmp c_eqI (ev_ixN (i := 1) (by walk_at "nm") ev_int rfl rfl) (by walk_at "nm")) fun _ => ?_)) ⟨rfl, rfl⟩)
  exact ev_any bl (ev_lcE (own := [("who", 5)]) nD .bl (fun w => decide (w ∈ lot)) (settersOf s bs) (it_seq (EvR.fz (ev_call H (by show 1 ≤ 1; omega) rfl (evs_cons (by walk_at "nm") (evs_cons (by walk_at "nm") evs_nil)) ⟨s, bs, rfl, (ok.so s hs).1, (ok.so s hs).2, rfl, rfl⟩)) rfl) (by walk_at "blk") rfl (Nat.le_trans (setters_len (ok.so s hs).2) (by omega)) fun w hw => lcp0 (tg_name (i := 5) (by walk_at "st")) (ev_cmp (c_inN rfl) (by walk_at "nm") (by walk_at "nm")))
def marksOf (l : List Sale) (bs : List (Int × Int)) (p : Int) : List Nat := (l.filter fun s => decide (s.price = p)).flatMap (settersOf · bs)
def groupOf (l : List Sale) (bs : List (Int × Int)) (p : Int) : List Nat := sortN (dedN (marksOf l bs p))
theorem strict_of {os : List Nat} (h : os.Pairwise (· ≤ ·)) (nd : os.Nodup) : os.Pairwise (· < ·) :=
  (List.Pairwise.and h nd).imp fun ⟨h1, h2⟩ => Nat.lt_of_le_of_ne h1 h2
theorem group_mem {l : List Sale} {bs : List (Int × Int)} {p : Int} {w : Nat} : w ∈ groupOf l bs p ↔ ∃ s ∈ l, s.price = p ∧ w ∈ settersOf s bs := by
  unfold groupOf
  rw [(sortN_perm _).mem_iff]
  unfold dedN
  rw [(insN_spec _ [] List.nodup_nil).2 w]
  unfold marksOf
  simp only [List.not_mem_nil, false_or, List.mem_flatMap, List.mem_filter, decide_eq_true_eq]
  constructor
  · rintro ⟨s, ⟨h1, h2⟩, h3⟩
    exact ⟨s, h1, h2, h3⟩
  · rintro ⟨s, h1, h2, h3⟩
    exact ⟨s, ⟨h1, h2⟩, h3⟩
theorem group_up {l : List Sale} {bs : List (Int × Int)} {p : Int} : (groupOf l bs p).Pairwise (· < ·) := by
  refine strict_of (sortN_pair _) ((sortN_perm _).nodup_iff.mpr ?_)
  exact (insN_spec _ [] List.nodup_nil).1
theorem group_len {l : List Sale} {bs : List (Int × Int)} {p : Int} (ok : BsOk bs l) : (groupOf l bs p).length ≤ 8 := by
  have := rising_len (groupOf l bs p) 0 bs.length group_up fun w hw => ⟨Nat.zero_le _, by
    obtain ⟨s, h1, h2, h3⟩ := group_mem.mp hw
    exact (ok.so s h1).1 w (List.mem_filter.mp h3).1⟩
  have := ok.b8
  omega
theorem flatMap_nD (l : List Sale) (bs : List (Int × Int)) (p : Int) : ((l.filter fun s => decide (s.price = p)).flatMap fun s => (settersOf s bs).map nD) = ((marksOf l bs p).map fun n : Nat => (n : Int)).map D.int := by
  rw [← map_nD]
  unfold marksOf
  rw [List.map_flatMap]
abbrev s_group_of : Stmt := topS 27
abbrev n_group_of : List Str := ["log", "some", "price", "found", "sale", "who"]
theorem sc_group_of : FnScope n_group_of ["log", "some", "price"] (defScope s_group_of) := ⟨rfl, rfl, rfl, by decide +kernel, rfl, by decide +kernel, by decide +kernel⟩
def C_group_of : Con := fun ds B r B' => ∃ (l : List Sale) (bs : List (Int × Int)) (p : Int), BsOk bs l ∧ ds = [logD l, .lst (bs.map bD), .int p] ∧ r = .o (.l ((groupOf l bs p).map nD)) ∧ B' = B
theorem has_group_of {T : Top} {f : Addr} {fd : FuncData} (bl : Bl T) (H : HasFn T 1 "setters_of" C_setters_of) (F : Fun T.K "group_of" "group_of" s_group_of f fd) (hm : T.mg "group_of" = some (.ref f)) : HasFn T 2 "group_of" C_group_of := by
  refine fn_ok F sc_group_of hm (F.binds fun _ _ _ _ _ _ us hl => match us, hl with | [_, _, _], _ => rfl) (fun ds B r B' ⟨l, bs, p, _, h, _⟩ => by rw [h]; rfl) fun ds B r B' ⟨l, bs, p, ok, h1, h2, h3⟩ => ?_
  subst h1 h2 h3
  have n8 := ok.n8
  have hlen : (((marksOf l bs p).map fun n : Nat => (n : Int)).foldl insK []).length < 64 := by
    rw [dedN_cast, List.length_map]
    have := group_len (p := p) ok
    unfold groupOf at this
    rw [(sortN_perm _).length_eq] at this
    omega
  refine exs_cons (ex_setDc2 (i := 3) (own := [("sale", 4), ("who", 5)]) (vs1 := [5]) (B1 := B') (B2 := B') (out := (marksOf l bs p).map fun n : Nat => (n : Int)) (by walk_at "st") rfl (it_seq (by walk_at "nm") rfl) (by walk_at "blk") rfl (by decide) ?run (by rw [List.length_map]; omega) (exs_one (ex_ret (r := .o (.l ((groupOf l bs p).map nD))) ?srt ⟨rfl, rfl⟩)))
  · rw [← flatMap_nD]
    refine L2P.run fun s hs => ⟨⟨_, _, tg_name (i := 4) (by walk_at "st"), by decide, tsl_one (ts_cmp c_eqI (ev_ixN (i := 1) (by walk_at "nm") ev_int rfl rfl) (by walk_at "nm")), fun _ => ⟨_, _, it_seq (EvR.fz (ev_call H (by show 1 ≤ 1; omega) rfl (evs_cons (by walk_at "nm") (evs_cons (by walk_at "nm") evs_nil)) ⟨s, bs, rfl, (ok.so s hs).1, (ok.so s hs).2, rfl, rfl⟩)) rfl, rfl, LcP.run0 fun w hw => lcp0 (tg_name (i := 5) (by walk_at "st")) (by walk_at "nm"), by rw [List.length_map]; exact setters_len (ok.so s hs).2⟩⟩⟩
  · have := k_sortK (g := fnG T n_group_of s_group_of 1) hlen
    rw [dedN_cast, sortL_N] at this
    exact evr_sorted bl this (by rw [← dedN_cast]; exact (by walk_at "nm"))
def pricesOf (l : List Sale) : List Int := sortL ((l.map Sale.price).foldl insK [])
abbrev s_prices : Stmt := topS 28
abbrev n_prices : List Str := ["log", "sale"]
theorem sc_prices : FnScope n_prices ["log"] (defScope s_prices) := ⟨rfl, rfl, rfl, by decide +kernel, rfl, by decide +kernel, by decide +kernel⟩
def C_prices : Con := fun ds B r B' => ∃ (l : List Sale), l.length ≤ 8 ∧ ds = [logD l] ∧ r = .o (.l ((pricesOf l).map .int)) ∧ B' = B
theorem has_prices {T : Top} {f : Addr} {fd : FuncData} (bl : Bl T) (F : Fun T.K "prices" "prices" s_prices f fd) (hm : T.mg "prices" = some (.ref f)) : HasFn T 1 "prices" C_prices := by
  refine fn_ok F sc_prices hm (F.binds fun _ _ _ _ _ _ us hl => match us, hl with | [_], _ => rfl) (fun ds B r B' ⟨l, _, h, _⟩ => by rw [h]; rfl) fun ds B r B' ⟨l, h8, h1, h2, h3⟩ => ?_
  subst h1 h2 h3
  have hlen : ((l.map Sale.price).foldl insK []).length < 64 := by
    have := insK_le (l.map Sale.price) []
    rw [List.length_map, List.length_nil] at this
    omega
  refine exs_one (ex_ret (evr_sorted bl (k_sortK hlen) (EvR.fz (evr_dc (own := [("sale", 1)]) (it_seq (by walk_at "nm") rfl) (by walk_at "blk") rfl (B2 := B') ?run (by rw [List.length_map]; omega)))) ⟨rfl, rfl⟩)
  rw [List.map_map]
  exact LcP.run0 (em := Sale.d) (f := D.int ∘ Sale.price) (xs := l) fun s hs => lcp0 (tg_name (i := 1) (by walk_at "st")) (ev_ixN (i := 1) (by walk_at "nm") ev_int rfl rfl)
def costOf (bought : List Nat) (bs : List (Int × Int)) (lot : List Nat) : Int := (lot.map fun w => (bought.getD w 0 : Int) * (hiOf bs w - loOf bs w)).sum
def costsOf (l : List Sale) (bs : List (Int × Int)) (bought : List Nat) (p : Int) : List Int := ((lotsOf (groupOf l bs p)).filter (reachesB l bs p)).map (costOf bought bs)
def boughtOf (folk : Nat) (l : List Sale) : List Nat := (List.range folk).map fun w => (l.filter fun s => decide (s.win = w)).length
def paidOf (l : List Sale) : Int := (l.map Sale.price).sum
def mostOf (l : List Sale) (bs : List (Int × Int)) (bought : List Nat) : Int := ((bought.zip bs).map fun p => (p.1 : Int) * p.2.2).sum - paidOf l
def leastFrom (l : List Sale) (bs : List (Int × Int)) (bought : List Nat) : Int := ((bought.zip bs).map fun p => (p.1 : Int) * p.2.1).sum - paidOf l
def leastAdd (l : List Sale) (bs : List (Int × Int)) (bought : List Nat) (a : Int) (ps : List Int) : Int := ps.foldl (fun a p => a + minL (costsOf l bs bought p)) a
def leastOf (l : List Sale) (bs : List (Int × Int)) (bought : List Nat) : Int := leastAdd l bs bought (leastFrom l bs bought) (pricesOf l)
theorem bought_get {folk : Nat} {l : List Sale} {w : Nat} (h : w < folk) : ((boughtOf folk l).map nD)[w]? = some (nD ((boughtOf folk l).getD w 0)) := by
  have hl : w < (boughtOf folk l).length := by unfold boughtOf; rw [List.length_map, List.length_range]; exact h
  rw [List.getElem?_map, List.getElem?_eq_getElem hl]
  simp [List.getD, List.getElem?_eq_getElem hl]
theorem bought_le {folk : Nat} {l : List Sale} {w : Nat} (h8 : l.length ≤ 8) : (boughtOf folk l).getD w 0 ≤ 8 := by
  unfold boughtOf
  rw [List.getD_eq_getElem?_getD, List.getElem?_map]
  cases h : (List.range folk)[w]? with
  | none => simp
  | some x =>
    simp
    exact Nat.le_trans (List.length_filter_le _ _) h8
theorem bought_all {folk : Nat} {l : List Sale} (h8 : l.length ≤ 8) : ∀ b ∈ boughtOf folk l, b ≤ 8 := by
  intro b hb
  unfold boughtOf at hb
  obtain ⟨w, _, rfl⟩ := List.mem_map.mp hb
  exact Nat.le_trans (List.length_filter_le _ _) h8
abbrev s_gains : Stmt := topS 36
abbrev n_gains : List Str := ["folk", "top", "log", "some", "bought", "paid", "most", "least", "price", "costs", "lot", "who", "sale", "many", "low", "high"]
theorem sc_gains : FnScope n_gains ["folk", "top", "log"] (defScope s_gains) := ⟨rfl, rfl, rfl, by decide +kernel, rfl, by decide +kernel, by decide +kernel⟩
def C_gains : Con := fun ds B r B' => ∃ (folk : Nat) (top : Int) (l : List Sale), LogOk folk top l ∧ canBe folk top l = true ∧ (∀ p ∈ pricesOf l, costsOf l (boundsOf folk top l) (boughtOf folk l) p ≠ []) ∧ ds = [nD folk, .int top, logD l] ∧
  r = .d (.tup [.int (leastOf l (boundsOf folk top l) (boughtOf folk l)), .int (mostOf l (boundsOf folk top l) (boughtOf folk l))]) ∧ B' = B
theorem has_gains {T : Top} {f : Addr} {fd : FuncData} (bl : Bl T) (H1 : HasFn T 6 "look_at" C_look_at) (H2 : HasFn T 3 "can_be_so" C_can_be_so) (H3 : HasFn T 2 "bounds" C_bounds) (H4 : HasFn T 1 "prices" C_prices) (H5 : HasFn T 1 "lots" C_lots) (H6 : HasFn T 2 "group_of" C_group_of) (H7 : HasFn T 2 "reaches" C_reaches)
    (F : Fun T.K "gains" "gains" s_gains f fd) (hm : T.mg "gains" = some (.ref f)) : HasFn T 7 "gains" C_gains := by
  refine fn_ok F sc_gains hm (F.binds fun _ _ _ _ _ _ us hl => match us, hl with | [_, _, _], _ => rfl) (fun ds B r B' ⟨folk, top, l, _, _, _, h, _⟩ => by rw [h]; rfl) fun ds B r B' ⟨folk, top, l, ok, cb, hne, h1, h2, h3⟩ => ?_
  subst h1 h2 h3
  have n8 := ok.n8
  have f8 := ok.f8
  have bok := bounds_ok ok
  have hbl : (boundsOf folk top l).length = folk := bounds_len
  have hbo : (boughtOf folk l).length = folk := by unfold boughtOf; rw [List.length_map, List.length_range]
  refine exs_cons (ex_expr (ev_call H1 (by show 6 ≤ 6; omega) rfl (evs_cons (by walk_at "nm") (evs_cons (by walk_at "nm") (evs_cons (by walk_at "nm") evs_nil))) ⟨folk, top, l, ok, rfl, rfl, rfl⟩) ?_)
  refine exs_cons (ex_skip (B1 := B') (ts_not (k := true) (ts_val (by rw [← cb]; exact ev_call H2 (by show 3 ≤ 6; omega) rfl (evs_cons (by walk_at "nm") (evs_cons (by walk_at "nm") (evs_cons (by walk_at "nm") evs_nil))) ⟨folk, top, l, ok, rfl, rfl, rfl⟩))) ?_)
  refine exs_cons (ex_set (i := 3) (by walk_at "st") (EvR.fz (ev_call H3 (by show 2 ≤ 6; omega) rfl (evs_cons (by walk_at "nm") (evs_cons (by walk_at "nm") (evs_cons (by walk_at "nm") evs_nil))) ⟨folk, top, l, by omega, by omega, rfl, rfl, rfl⟩)) ?_ (fun _ _ => rfl))
  refine exs_cons (ex_set (i := 4) (x := .lst ((boughtOf folk l).map nD)) (by walk_at "st") (ev_lcE (own := [("who", 11)]) nD nD (fun w => (l.filter fun s => decide (s.win = w)).length) (List.range folk) (it_rangeN rfl bl.range (by walk_at "nm") (by omega)) (by walk_at "blk") rfl (by rw [List.length_range]; omega) fun w hw => lcp0 (tg_name (i := 11) (by walk_at "st")) ?bo) ?_ (sw_cell rfl))
  case bo =>
    have e : nD ((l.filter fun s => decide (s.win = w)).length) = nD ((((l.filter fun s => decide (s.win = w)).map fun _ => (1 : Int)).map D.int).length) := by rw [List.length_map, List.length_map]
    rw [e]
    exact ev_len bl (ev_lcF (own := [("sale", 12)]) Sale.d .int (fun s => decide (s.win = w)) (fun _ => 1) l (it_seq (by walk_at "nm") rfl) (by walk_at "blk") rfl (by omega) fun s hs => lcp1 (tg_name (i := 12) (by walk_at "st")) (ts_cmp c_eqN (ev_ixN (i := 0) (by walk_at "nm") ev_int rfl rfl) (by walk_at "nm")) fun _ => ev_int) rfl
  refine exs_cons (ex_set (i := 5) (x := .int (paidOf l)) (by walk_at "st") (ev_sum bl (ev_lcE (own := [("sale", 12)]) Sale.d .int Sale.price l (it_seq (by walk_at "nm") rfl) (by walk_at "blk") rfl (by omega) fun s hs => lcp0 (tg_name (i := 12) (by walk_at "st")) (ev_ixN (i := 1) (by walk_at "nm") ev_int rfl rfl))) ?_ (fun _ _ => rfl))
  refine exs_cons (ex_set (i := 6) (x := .int (mostOf l (boundsOf folk top l) (boughtOf folk l))) (by walk_at "st") (ev_bin b_sub (ev_sum bl (ev_lcE (own := [("many", 13), ("low", 14), ("high", 15)]) (fun p : Nat × Int × Int => .tup [nD p.1, bD p.2]) .int (fun p => (p.1 : Int) * p.2.2) ((boughtOf folk l).zip (boundsOf folk top l)) (by rw [← zipD_map]; exact it_zipL rfl bl.zip (by walk_at "nm") (by walk_at "nm")) (by walk_at "blk") rfl (by rw [List.length_zip]; omega) fun p hp => lcp0 (tg_tup (tgs_cons (tg_name (i := 13) (by walk_at "st")) (tgs_cons (tg_tup (tgs_cons (tg_name (i := 14) (by walk_at "st")) (tgs_cons (tg_name (i := 15) (by walk_at "st")) tgs_nil))) tgs_nil))) (ev_bin (b_mul (.inl ?m1)) (by walk_at "nm") (by walk_at "nm")))) (by walk_at "nm")) ?_ (fun _ _ => rfl))
  case m1 =>
    have := bought_all (folk := folk) n8 p.1 (List.of_mem_zip hp).1
    omega
  refine exs_cons (ex_set (i := 7) (x := .int (leastFrom l (boundsOf folk top l) (boughtOf folk l))) (by walk_at "st") (ev_bin b_sub (ev_sum bl (ev_lcE (own := [("many", 13), ("low", 14), ("high", 15)]) (fun p : Nat × Int × Int => .tup [nD p.1, bD p.2]) .int (fun p => (p.1 : Int) * p.2.1) ((boughtOf folk l).zip (boundsOf folk top l)) (by rw [← zipD_map]; exact it_zipL rfl bl.zip (by walk_at "nm") (by walk_at "nm")) (by walk_at "blk") rfl (by rw [List.length_zip]; omega) fun p hp => lcp0 (tg_tup (tgs_cons (tg_name (i := 13) (by walk_at "st")) (tgs_cons (tg_tup (tgs_cons (tg_name (i := 14) (by walk_at "st")) (tgs_cons (tg_name (i := 15) (by walk_at "st")) tgs_nil))) tgs_nil))) (ev_bin (b_mul (.inl ?m2)) (by walk_at "nm") (by walk_at "nm")))) (by walk_at "nm")) ?_ (fun _ _ => rfl))
  case m2 =>
    have := bought_all (folk := folk) n8 p.1 (List.of_mem_zip hp).1
    omega
  generalize hbs : boundsOf folk top l = bs at *
  generalize hbq : boughtOf folk l = bought at *
  have hbg : ∀ w, w < folk → (bought.map nD)[w]? = some (nD (bought.getD w 0)) := fun w h => by rw [← hbq]; exact bought_get h
  have hb8 : ∀ w, bought.getD w 0 ≤ 8 := fun w => by rw [← hbq]; exact bought_le n8
  have hl8 : (pricesOf l).length ≤ 8 := by
    have := insK_le (l.map Sale.price) []
    unfold pricesOf
    rw [(sortL_perm _).length_eq]
    rw [List.length_map, List.length_nil] at this
    omega
  let ρ0 (a : Int) : Rho := [.d (nD folk), .d (.int top), .d (logD l), .d (.lst (bs.map bD)), .d (.lst (bought.map nD)), .d (.int (paidOf l)), .d (.int (mostOf l bs bought)), .d (.int a), .u, .u, .u, .u, .u, .u, .u, .u]
  refine exs_cons (ex_for (ds := (pricesOf l).map .int) (B1 := B') (it_seq (EvR.fz (ev_call H4 (by show 1 ≤ 6; omega) rfl (evs_cons (by walk_at "nm") evs_nil) ⟨l, n8, rfl, rfl, rfl⟩)) rfl) (fun i ρ B => ∃ a, a = leastAdd l bs bought (leastFrom l bs bought) ((pricesOf l).take i) ∧ ρ = ρ0 a ∧ B = B') ⟨_, rfl, ?st, rfl⟩ (fun i d ρ' B1 hd ⟨a, h1, h2, h3⟩ => ?_) fun ρ' B1 h => ?_)
  case st =>
    subst hbq
    rfl
  · obtain ⟨p, hx, rfl, hm, hi, ht⟩ := map_get hd
    subst h2 h3
    refine ⟨_, _, tg_name (i := 8) (by walk_at "st"), exs_cons (ex_setR (i := 9) (by walk_at "st") (evr_lst evs_nil) ?_ (fun _ _ => rfl))⟩
    let ρ1 (cs : List Int) : Rho := [.d (nD folk), .d (.int top), .d (logD l), .d (.lst (bs.map bD)), .d (.lst (bought.map nD)), .d (.int (paidOf l)), .d (.int (mostOf l bs bought)), .d (.int a), .d (.int p), .o (.l (cs.map .int)), .u, .u, .u, .u, .u, .u]
    refine exs_cons (ex_for (ds := (lotsOf (groupOf l bs p)).map lotD) (B1 := B1) (it_seq (ev_call H5 (by show 1 ≤ 6; omega) rfl (evs_cons (EvR.fz (ev_call H6 (by show 2 ≤ 6; omega) rfl (evs_cons (by walk_at "nm") (evs_cons (by walk_at "nm") (evs_cons (by walk_at "nm") evs_nil))) ⟨l, bs, p, bok, rfl, rfl, rfl⟩)) evs_nil) ⟨groupOf l bs p, group_len bok, rfl, rfl, rfl⟩) rfl) (fun i ρ B => ∃ cs, cs = (((lotsOf (groupOf l bs p)).take i).filter (reachesB l bs p)).map (costOf bought bs) ∧ ρ = ρ1 cs ∧ B = B1) ⟨_, rfl, rfl, rfl⟩ (fun i d ρ' B2 hd ⟨cs, h1, h2, h3⟩ => ?_) fun ρ' B2 h => ?_)
    · obtain ⟨lot, hx2, rfl, hm2, hi2, ht2⟩ := map_get hd
      subst h2 h3
      have hlt := lotsOf_len (groupOf l bs p)
      have hp8 := pow8 (group_len (p := p) bok)
      have hlot : ∀ w ∈ lot, w < folk := fun w hw => by
        obtain ⟨s, g1, g2, g3⟩ := group_mem.mp (((lotsOf_mem _ _).mp hm2).subset hw)
        rw [← hbl]
        exact (bok.so s g1).1 w (List.mem_filter.mp g3).1
      have hlen : lot.length ≤ 8 := Nat.le_trans ((lotsOf_mem _ _).mp hm2).length_le (group_len bok)
      have hcs : cs.length ≤ 1000000 := by
        rw [h1, List.length_map]
        refine Nat.le_trans (List.length_filter_le _ _) ?_
        rw [List.length_take]
        omega
      refine ⟨_, _, tg_name (i := 10) (by walk_at "st"), exs_cons (ex_if (k := reachesB l bs p lot) (B1 := B2) (ts_val (ev_call H7 (by show 2 ≤ 6; omega) rfl (evs_cons (by walk_at "nm") (evs_cons (by walk_at "nm") (evs_cons (by walk_at "nm") (evs_cons (by walk_at "nm") evs_nil)))) ⟨l, bs, p, lot, bok, rfl, rfl, rfl⟩)) (fun hk => ?_) fun hk => ?_)⟩
      · refine exs_one (ex_append (i := 9) (y := .int (costOf bought bs lot)) rfl (by walk_at "vis") rfl (ev_sum bl (ev_lcE (own := [("who", 11)]) nD .int (fun w => (bought.getD w 0 : Int) * (hiOf bs w - loOf bs w)) lot (it_seq (by walk_at "nm") rfl) (by walk_at "blk") rfl (by omega) fun w hw => lcp0 (tg_name (i := 11) (by walk_at "st")) (ev_bin (b_mul (.inl ?mm)) (ev_ixN (by walk_at "nm") (by walk_at "nm") rfl (hbg w (hlot w hw))) (ev_bin b_sub (ev_ixN (i := 1) (ev_ixN (by walk_at "nm") (by walk_at "nm") rfl (bs_get (by rw [hbl]; exact hlot w hw))) ev_int rfl rfl) (ev_ixN (i := 0) (ev_ixN (by walk_at "nm") (by walk_at "nm") rfl (bs_get (by rw [hbl]; exact hlot w hw))) ev_int rfl rfl))))) ?nx (by rw [List.length_map]; exact hcs))
        · have := hb8 w
          omega
        · refine exs_fgt (is := [10]) (exs_nil ⟨cs ++ [costOf bought bs lot], ?_, ?_, rfl⟩)
          · rw [ht2, List.filter_append, List.map_append, ← h1, List.filter_cons_of_pos hk]
            rfl
          · show _ = ρ1 _
            dsimp only [ρ1]
            rw [List.map_append]
            rfl
      · refine exs_nil (exs_fgt (is := [10]) (exs_nil ⟨cs, ?_, rfl, rfl⟩))
        rw [ht2, List.filter_append, List.map_append, ← h1, List.filter_cons_of_neg (by rw [hk]; exact Bool.false_ne_true)]
        simp
    · obtain ⟨cs, h1', h2, h3⟩ := h
      subst h2 h3
      rw [List.length_map, List.take_length] at h1'
      have hcs : cs ≠ [] := by rw [h1']; exact hne p hm
      refine exs_fz (i := 9) (ct := .l (cs.map .int)) rfl (exs_cons (ex_set (i := 7) (x := .int (a + minL cs)) (by walk_at "st") (ev_bin b_add (by walk_at "nm") (ev_min bl (ns := cs) (by walk_at "nm") hcs)) (exs_fgt (is := [8, 9]) (exs_nil ⟨_, ?_, rfl, rfl⟩)) (fun _ _ => rfl)))
      rw [ht]
      unfold leastAdd
      rw [List.foldl_append, h1, h1']
      rfl
  · obtain ⟨a, h1, h2, h3⟩ := h
    subst h2 h3
    rw [List.length_map, List.take_length] at h1
    subst h1
    exact exs_one (ex_ret (ev_tup (evs_cons (by walk_at "nm") (evs_cons (by walk_at "nm") evs_nil))) ⟨rfl, rfl⟩)
def castL (l : List Nat) : List Int := l.map fun n : Nat => (n : Int)
def ltLot (a b : List Nat) : Bool := decide (a.length < b.length ∨ (a.length = b.length ∧ castL a < castL b))
def pairD (l : List Nat) : D := .tup [nD l.length, lotD l]
def encL (l : List Nat) : PyData := .tuple [.int (l.length : Nat), .tuple ((castL l).map .int)]
theorem encL_py (l : List Nat) : (pairD l).py = some (encL l) := by
  unfold pairD D.py D.pys D.pys D.pys
  unfold lotD nD
  rw [show (D.tup (l.map fun n : Nat => D.int (n : Int))).py = _ from py_tup l]
  unfold D.py
  rfl
theorem alikeInts : ∀ xs ys : List Int, PySem.W.alikeAll (xs.map .int) (ys.map .int) = true
  | [], ys => by simp [PySem.W.alikeAll]
  | x :: xs, [] => by simp [PySem.W.alikeAll]
  | x :: xs, y :: ys => by simp [PySem.W.alikeAll, PySem.W.alike, alikeInts xs ys]
theorem encL_alike (a b : List Nat) : PySem.W.alike (encL a) (encL b) = true := by
  simp [encL, PySem.W.alike, PySem.W.alikeAll, alikeInts]
theorem encL_depth (l : List Nat) : (encL l).depth ≤ 3 := by
  have := depthInts (castL l)
  unfold encL
  simp [PyData.depth, PyData.depthAll]
  omega
theorem encL_lt (a b : List Nat) : PySem.W.dataLt (encL a) (encL b) = ltLot a b := by
  unfold encL
  rw [PySem.W.dataLt_pair (by simp [PySem.W.alike]) (by simp [PySem.W.alike, alikeInts])]
  rw [PySem.W.dataLt_int, PySem.W.dataLt_tuple]
  have h := PySem.W.dataLt_ints (castL a) (castL b)
  unfold PySem.W.rowLt at h
  rw [h]
  unfold PyData.eqv
  rw [eqvInts]
  unfold ltLot
  by_cases h1 : a.length = b.length
  · have h1' : ((a.length : Nat) : Int) = (b.length : Nat) := by omega
    rw [if_pos (by simpa using h1')]
    by_cases h2 : castL a = castL b
    · rw [if_pos (by simpa using h2)]
      simp [h1, h2]
    · rw [if_neg (by simpa using h2)]
      simp [h1]
  · have h1' : ¬ ((a.length : Nat) : Int) = (b.length : Nat) := by omega
    rw [if_neg (by simpa using h1')]
    simp [h1]
theorem encL_inj {a b : List Nat} (h : encL a = encL b) : a = b := by
  unfold encL at h
  have h2 : (castL a).map PyData.int = (castL b).map PyData.int := by simpa using (congrArg (fun x => match x with | .tuple [_, .tuple l] => l | _ => []) h)
  have h3 : castL a = castL b := by
    have := congrArg (fun l => PyData.eqvAll l ((castL b).map .int)) h2
    simp only [eqvInts] at this
    simpa using this
  exact cast_inj.mp h3
def firstLot : List (List Nat) → List Nat
  | [] => []
  | b :: bs => bs.foldl (fun a y => if ltLot y a then y else a) b
theorem minD_lot : ∀ (bs : List (List Nat)) (b : List Nat), PySem.W.minD (encL b) (bs.map encL) = encL (bs.foldl (fun a y => if ltLot y a then y else a) b)
  | [], _ => rfl
  | y :: bs, b => by
    have := minD_lot bs (if ltLot y b then y else b)
    unfold PySem.W.minD at this ⊢
    rw [List.map_cons, List.foldl_cons, List.foldl_cons, ← this, encL_lt]
    congr 1
    split <;> rfl
theorem depthAll_le {n : Nat} : ∀ {xs : List PyData}, (∀ x ∈ xs, x.depth ≤ n) → PyData.depthAll xs ≤ n
  | [], _ => by simp [PyData.depthAll]
  | x :: xs, h => by
    unfold PyData.depthAll
    exact Nat.max_le.mpr ⟨h x List.mem_cons_self, depthAll_le fun y hy => h y (List.mem_cons_of_mem _ hy)⟩
theorem k_minLot {g : G} {ls : List (List Nat)} (h : ls ≠ []) : CallD g (.builtin "min") [.lst (ls.map pairD)] (.d (pairD (firstLot ls))) := by
  cases ls with
  | nil => exact absurd rfl h
  | cons b bs =>
    refine k_minD pairD encL b bs (firstLot (b :: bs)) encL_py ⟨fun x hx y hy => ?_, fun x hx => ?_⟩ (depthAll_le fun x hx => ?_) (minD_lot bs b) fun b hb e => by rw [encL_inj e]
    · obtain ⟨a, _, rfl⟩ := List.mem_map.mp hx
      obtain ⟨c, _, rfl⟩ := List.mem_map.mp hy
      exact encL_alike a c
    · obtain ⟨a, _, rfl⟩ := List.mem_map.mp hx
      exact fun z => by unfold encL at z; cases z
    · obtain ⟨a, _, rfl⟩ := List.mem_map.mp hx
      have := encL_depth a
      omega
def sortLots (ls : List (List Nat)) : List (List Nat) := ls.mergeSort (PySem.W.dataLe false encL)
theorem k_sortLots {g : G} {ls : List (List Nat)} : CallD g (.builtin "sorted") [.lst (ls.map pairD)] (.o (.l ((sortLots ls).map pairD))) := by
  refine k_sortD pairD encL ls encL_py (fun x hx y hy => ?_) (.inl fun x hx => ?_) fun b => ?_
  · obtain ⟨a, _, rfl⟩ := List.mem_map.mp hx
    obtain ⟨c, _, rfl⟩ := List.mem_map.mp hy
    exact encL_alike a c
  · obtain ⟨a, _, rfl⟩ := List.mem_map.mp hx
    exact ⟨_, _, rfl⟩
  · have := encL_depth b
    omega
theorem lotsOf_bound {n : Nat} (h : n ≤ 8) : ∀ lot ∈ lotsOf (List.range n), lot.length ≤ 8 ∧ ∀ w ∈ lot, w < n := fun lot hl => by
  have hs := (lotsOf_mem _ _).mp hl
  have := hs.length_le
  rw [List.length_range] at this
  exact ⟨by omega, fun w hw => List.mem_range.mp (hs.subset hw)⟩
def allReach (l : List Sale) (bs : List (Int × Int)) (lot : List Nat) : Bool := (l.map fun s => ((settersOf s bs).map fun w => decide (w ∈ lot)).any id).all id
def goodOf (folk : Nat) (l : List Sale) (bs : List (Int × Int)) : List (List Nat) := (lotsOf (List.range folk)).filter (allReach l bs)
abbrev s__law_well : Stmt := topS 38
abbrev n__law_well : List Str := ["cell", "turn"]
theorem sc__law_well : FnScope n__law_well ["cell", "turn"] (defScope s__law_well) := ⟨rfl, rfl, rfl, by decide +kernel, rfl, by decide +kernel, by decide +kernel⟩
theorem has__law_well {T : Top} {f : Addr} {fd : FuncData} (F : Fun T.K "_law_well" "_law_well" s__law_well f fd) (hm : T.mg "_law_well" = some (.ref f)) : HasFn T 1 "_law_well" C_well := by
  refine fn_ok F sc__law_well hm (F.binds fun _ _ _ _ _ _ us hl => match us, hl with | [_, _], _ => rfl) (fun ds B r B' ⟨c, t, h, _⟩ => by rw [h]; rfl) fun ds B r B' ⟨c, t, h1, x, y, z, h2, h3, h4, h5, h6⟩ => ?_
  subst h1 h2 h6
  have hp : CPow 10 18 := ⟨by omega, by omega, by decide⟩
  refine exs_cons (ex_if (k := decide (10 ^ (18 : Int).toNat ≤ c)) (B1 := B') (ts_cmp c_ge (by walk_at "nm") (ev_bin (b_pow hp) ev_int ev_int)) (fun hk => ?_) fun hk => ?_)
  · have hk' : (10 : Int) ^ 18 ≤ c := by simpa using hk
    rw [if_pos hk'] at h3
    subst h3 h4 h5
    exact exs_one (ex_ret (evr_lst (evs_cons (ev_bin b_sub (by walk_at "nm") (ev_bin (b_pow hp) ev_int ev_int)) (evs_cons (ev_bin (b_mod (by omega)) (by walk_at "nm") ev_int) (evs_cons (by walk_at "nm") evs_nil)))) ⟨rfl, rfl⟩)
  · have hk' : ¬ (10 : Int) ^ 18 ≤ c := by simpa using hk
    rw [if_neg hk'] at h3
    subst h3 h4 h5
    exact exs_nil (exs_one (ex_ret (evr_lst (evs_cons ev_int (evs_cons (ev_bin (b_mod (by omega)) (by walk_at "nm") ev_int) (evs_cons (by walk_at "nm") evs_nil)))) ⟨rfl, rfl⟩))
/-- the bag: how far its counter has come -/
structure BagN (m : Int) (B : Bag) : Prop where
  a : 0 ≤ B.1
  b : 0 ≤ B.2.1
  bt : B.2.1 < 2305843009213693951
  c : 0 ≤ B.2.2
  ct : B.2.2 ≤ m
theorem BagN.mono {m m' : Int} {B : Bag} (h : BagN m B) (le : m ≤ m') : BagN m' B := ⟨h.a, h.b, h.bt, h.c, Int.le_trans h.ct le⟩
def lcg (b c : Int) : Int :=
  ((((b + 1000003 * c) % 2305843009213693951) * ((b + 1000003 * c) % 2305843009213693951) + 7919 * c ^ (2 : Int).toNat + 5) % 2305843009213693951) ^ (3 : Int).toNat % 2305843009213693951 / 13
def takeV (B : Bag) (many : Nat) : Int := if 0 < B.1 then B.1 % many else lcg B.2.1 (B.2.2 + 1) % many
def takeN (B : Bag) (many : Nat) : Nat := (takeV B many).toNat
def takeB (B : Bag) (many : Nat) : Bag := if 0 < B.1 then (B.1 / many, B.2.1, B.2.2) else (B.1, B.2.1, B.2.2 + 1)
theorem takeV_nn {B : Bag} {many : Nat} (h : 0 < many) : 0 ≤ takeV B many ∧ takeV B many < many := by
  have h' : (many : Int) ≠ 0 := by omega
  have h2 : (0 : Int) < many := by omega
  unfold takeV
  split
  · exact ⟨Int.emod_nonneg _ h', Int.emod_lt_of_pos _ h2⟩
  · exact ⟨Int.emod_nonneg _ h', Int.emod_lt_of_pos _ h2⟩
theorem takeN_int {B : Bag} {many : Nat} (h : 0 < many) : nD (takeN B many) = .int (takeV B many) := by
  unfold nD takeN
  rw [Int.toNat_of_nonneg (takeV_nn h).1]
theorem takeN_lt {B : Bag} {many : Nat} (h : 0 < many) : takeN B many < many := by
  have := takeV_nn (B := B) h
  unfold takeN
  omega
theorem takeB_ok {m : Int} {B : Bag} {many : Nat} (h : BagN m B) : BagN (m + 1) (takeB B many) := by
  have := h.ct
  have := h.c
  unfold takeB
  split
  · exact ⟨Int.ediv_nonneg h.a (by omega), h.b, h.bt, h.c, by show B.2.2 ≤ m + 1; omega⟩
  · exact ⟨h.a, h.b, h.bt, by show 0 ≤ B.2.2 + 1; omega, by show B.2.2 + 1 ≤ m + 1; omega⟩
abbrev s__law_take : Stmt := topS 39
abbrev n__law_take : List Str := ["bag", "many", "p", "n", "found"]
theorem sc__law_take : FnScope n__law_take ["bag", "many"] (defScope s__law_take) := ⟨rfl, rfl, rfl, by decide +kernel, rfl, by decide +kernel, by decide +kernel⟩
def C__law_take : Con := fun ds B r B' => ∃ (many : Nat), 0 < many ∧ many ≤ 1000000 ∧ BagN 1000000000000 B ∧ ds = [.bag, nD many] ∧ r = .d (nD (takeN B many)) ∧ B' = takeB B many
theorem has__law_take {T : Top} {f : Addr} {fd : FuncData} (F : Fun T.K "_law_take" "_law_take" s__law_take f fd) (hm : T.mg "_law_take" = some (.ref f)) : HasFn T 1 "_law_take" C__law_take := by
  refine fn_ok F sc__law_take hm (F.binds fun _ _ _ _ _ _ us hl => match us, hl with | [_, _], _ => rfl) (fun ds B r B' ⟨m, _, _, _, h, _⟩ => by rw [h]; rfl) fun ds B r B' ⟨many, h0, h1, hB, h2, h3, h4⟩ => ?_
  subst h2 h3 h4
  rw [takeN_int h0]
  have hd : CDiv B.1 (many : Nat) := ⟨by omega, by omega⟩
  refine exs_cons (ex_if (k := decide (0 < B.1)) (B1 := B) (ts_cmp c_gt (ev_ixBag (by walk_at "nm") ev_int rfl) ev_int) (fun hk => ?_) fun hk => ?_)
  · have hk' : 0 < B.1 := by simpa using hk
    have e1 : takeV B many = B.1 % many := by unfold takeV; rw [if_pos hk']
    have e2 : takeB B many = Bag.set B 0 (B.1 / many) := by unfold takeB; rw [if_pos hk']; rfl
    rw [e1, e2]
    refine exs_cons (ex_set (i := 4) (by walk_at "st") (ev_bin (b_mod (i := B.1) (j := (many : Int)) (by omega)) (ev_ixBag (B2 := B) (by walk_at "nm") ev_int rfl) (by walk_at "nm")) ?_ (fun _ _ => rfl))
    refine exs_cons (ex_setBag (k := 0) (v := B.1 / (many : Int)) (B1 := B) (B2 := B) (ev_bin (b_fdiv hd) (ev_ixBag (B2 := B) (by walk_at "nm") ev_int rfl) (ev_nm (d := .int (many : Int)) rfl (by walk_at "vis") rfl)) (by walk_at "nm") ev_int (by omega) ?_)
    exact exs_one (ex_ret (by walk_at "nm") ⟨rfl, rfl⟩)
  · have hk' : ¬ 0 < B.1 := by simpa using hk
    have e1 : takeV B many = lcg B.2.1 (B.2.2 + 1) % many := by unfold takeV; rw [if_neg hk']
    have e2 : takeB B many = Bag.set B 2 (B.2.2 + 1) := by unfold takeB; rw [if_neg hk']; rfl
    rw [e1, e2]
    have c1 := hB.c
    have c2 := hB.ct
    have c3 := hB.b
    have c4 := hB.bt
    refine exs_nil (exs_cons (ex_setBag (k := 2) (v := B.2.2 + 1) (ev_bin b_add (ev_ixBag (by walk_at "nm") ev_int rfl) ev_int) (by walk_at "nm") ev_int (by omega) ?_))
    refine exs_cons (ex_set (i := 2) (by walk_at "st") ev_int ?_ (fun _ _ => rfl))
    refine exs_cons (ex_set (i := 3) (x := .int ((B.2.1 + 1000003 * (B.2.2 + 1)) % 2305843009213693951)) (by walk_at "st") (ev_bin (b_mod (by omega)) (ev_bin b_add (ev_ixBag (B2 := Bag.set B 2 (B.2.2 + 1)) (by walk_at "nm") ev_int rfl) (ev_bin (b_mul (.inl ⟨by omega, by omega⟩)) ev_int (ev_ixBag (B2 := Bag.set B 2 (B.2.2 + 1)) (by walk_at "nm") ev_int rfl))) (by walk_at "nm")) ?_ (fun _ _ => rfl))
    have n1 := Int.emod_nonneg (B.2.1 + 1000003 * (B.2.2 + 1)) (show (2305843009213693951 : Int) ≠ 0 by omega)
    have n2 := Int.emod_lt_of_pos (B.2.1 + 1000003 * (B.2.2 + 1)) (show (0 : Int) < 2305843009213693951 by omega)
    refine exs_cons (ex_set (i := 3) (x := .int ((((B.2.1 + 1000003 * (B.2.2 + 1)) % 2305843009213693951) * ((B.2.1 + 1000003 * (B.2.2 + 1)) % 2305843009213693951) + 7919 * (B.2.2 + 1) ^ (2 : Int).toNat + 5) % 2305843009213693951)) (by walk_at "st") (ev_bin (b_mod (by omega)) (ev_bin b_add (ev_bin b_add (ev_bin (b_mul (.inl ⟨by omega, by omega⟩)) (by walk_at "nm") (by walk_at "nm")) (ev_bin (b_mul (.inl ⟨by omega, by omega⟩)) ev_int (ev_bin (b_pow ⟨by omega, by omega, by omega⟩) (ev_ixBag (B2 := Bag.set B 2 (B.2.2 + 1)) (by walk_at "nm") ev_int rfl) ev_int))) ev_int) (by walk_at "nm")) ?_ (fun _ _ => rfl))
    generalize hz : ((B.2.1 + 1000003 * (B.2.2 + 1)) % 2305843009213693951) * ((B.2.1 + 1000003 * (B.2.2 + 1)) % 2305843009213693951) + 7919 * (B.2.2 + 1) ^ (2 : Int).toNat + 5 = z
    have n3 := Int.emod_nonneg z (show (2305843009213693951 : Int) ≠ 0 by omega)
    have n4 := Int.emod_lt_of_pos z (show (0 : Int) < 2305843009213693951 by omega)
    refine exs_one (ex_ret (ev_bin (b_mod (i := (z % 2305843009213693951) ^ (3 : Int).toNat % 2305843009213693951 / 13) (j := (many : Int)) (by omega)) (ev_bin (b_fdiv (i := (z % 2305843009213693951) ^ (3 : Int).toNat % 2305843009213693951) (j := 13) ⟨by omega, by omega⟩) (ev_bin (b_mod (i := (z % 2305843009213693951) ^ (3 : Int).toNat) (j := 2305843009213693951) (by omega)) (ev_bin (b_pow (i := z % 2305843009213693951) (j := 3) ⟨by omega, by omega, by omega⟩) (by walk_at "nm") ev_int) (by walk_at "nm")) ev_int) (by walk_at "nm")) ⟨?_, rfl⟩)
    unfold lcg
    rw [hz]
/-! ### _law_same -/
mutual
def D.same : D → D → Bool
  | .tup xs, .tup ys => D.sames xs ys
  | .lst xs, .lst ys => D.sames xs ys
  | .bl a, .bl b => decide (a = b)
  | .int a, .int b => decide (a = b)
  | .str a, .str b => decide (a = b)
  | .non, .non => true
  | _, _ => false
def D.sames : List D → List D → Bool
  | [], [] => true
  | x :: xs, y :: ys => D.same x y && D.sames xs ys
  | _, _ => false
end
inductive D.Scl : D → Prop
  | non : D.Scl .non
  | bl (b : Bool) : D.Scl (.bl b)
  | int (i : Int) : D.Scl (.int i)
  | str (s : Str) : D.Scl (.str s)
def D.fit : Nat → D → Prop
  | 0, d => d.Scl
  | n + 1, d => d.Scl ∨ ∃ xs, (d = .tup xs ∨ d = .lst xs) ∧ xs.length ≤ 1000000 ∧ ∀ x ∈ xs, D.fit n x
theorem sames_zip : ∀ xs ys : List D, D.sames xs ys = (decide (xs.length = ys.length) && ((xs.zip ys).map fun p => D.same p.1 p.2).all id)
  | [], [] => by simp [D.sames]
  | [], y :: ys => by simp [D.sames]
  | x :: xs, [] => by simp [D.sames]
  | x :: xs, y :: ys => by
    rw [D.sames, sames_zip xs ys]
    simp
    cases D.same x y <;> simp
abbrev s__law_same : Stmt := topS 41
abbrev n__law_same : List Str := ["a", "b", "x", "y"]
theorem sc__law_same : FnScope n__law_same ["a", "b"] (defScope s__law_same) := ⟨rfl, rfl, rfl, by decide +kernel, rfl, by decide +kernel, by decide +kernel⟩
def C__law_same (n : Nat) : Con := fun ds B r B' => ∃ a b, D.fit n a ∧ b.plain = true ∧ ds = [a, b] ∧ r = .d (.bl (D.same a b)) ∧ B' = B
theorem D.Scl.plain {d : D} (h : d.Scl) : d.plain = true := by cases h <;> (unfold D.plain D.py; rfl)
theorem D.fit.plain : ∀ {n : Nat} {d : D}, D.fit n d → d.plain = true
  | 0, d, h => D.Scl.plain (d := d) h
  | n + 1, d, .inl h => D.Scl.plain (d := d) h
  | n + 1, _, .inr ⟨xs, h, _, hx⟩ => by
    rcases h with rfl | rfl
    · exact plain_tup fun d hd => D.fit.plain (hx d hd)
    · exact plain_lst fun d hd => D.fit.plain (hx d hd)
theorem plain_cases {d : D} (h : d.plain = true) : d.Scl ∨ (∃ xs, d = .tup xs) ∨ ∃ xs, d = .lst xs := by
  cases d with
  | non => exact .inl .non
  | bl b => exact .inl (.bl b)
  | int i => exact .inl (.int i)
  | str s => exact .inl (.str s)
  | tup xs => exact .inr (.inl ⟨xs, rfl⟩)
  | lst xs => exact .inr (.inr ⟨xs, rfl⟩)
  | _ => unfold D.plain D.py at h; cases h
theorem bl_of {d : D} (h : d.isBl = true) : ∃ b, d = .bl b := by cases d <;> first | exact ⟨_, rfl⟩ | cases h
theorem str_of {d : D} (h : d.isStr = true) : ∃ b, d = .str b := by cases d <;> first | exact ⟨_, rfl⟩ | cases h
theorem int_of {d : D} (h : d.isInt = true) (h2 : d.isBl = false) : ∃ b, d = .int b := by
  cases d with
  | int i => exact ⟨i, rfl⟩
  | bl b => exact Bool.noConfusion h2
  | _ => exact Bool.noConfusion h
theorem same_bl (x y : Bool) : D.same (.bl x) (.bl y) = decide (x = y) := by unfold D.same; rfl
theorem same_int (x y : Int) : D.same (.int x) (.int y) = decide (x = y) := by unfold D.same; rfl
theorem same_str (x y : Str) : D.same (.str x) (.str y) = decide (x = y) := by unfold D.same; rfl
theorem same_tup (x y : List D) : D.same (.tup x) (.tup y) = D.sames x y := by unfold D.same; rfl
theorem same_lst (x y : List D) : D.same (.lst x) (.lst y) = D.sames x y := by unfold D.same; rfl
theorem same_body {T : Top} (bl : Bl T) (n : Nat) (a b : D) (B : Bag) (pa : a.plain = true) (pb : b.plain = true) (rec : ∀ xs, (a = .tup xs ∨ a = .lst xs) → xs.length ≤ 1000000 ∧ ∃ m, HasFn T n "_law_same" (C__law_same m) ∧ ∀ x ∈ xs, D.fit m x) :
    Exs (fnG T n__law_same s__law_same n) (defBody s__law_same) (startR n__law_same [a, b]) B (retE (.d (.bl (D.same a b))) B) := by
  have ta := D.plain.ty pa
  have tb := D.plain.ty pb
  refine exs_cons (ex_if (k := (a.isLst && b.isLst) || (a.isTup && b.isTup)) (B1 := B) (Tw.ts (tw_orP (Tw.ts (tw_andP (ts_val (ev_isi bl (isi_list ta) bl.list bt_list (by walk_at "nm"))) fun _ => tw_and1 (ts_val (ev_isi bl (isi_list tb) bl.list bt_list (by walk_at "nm"))))) fun _ => tw_or1 (Tw.ts (tw_andP (ts_val (ev_isi bl (isi_tuple ta) bl.tuple bt_tuple (by walk_at "nm"))) fun _ => tw_and1 (ts_val (ev_isi bl (isi_tuple tb) bl.tuple bt_tuple (by walk_at "nm"))))))) (fun hk => ?_) fun hk => exs_nil ?_)
  · have both : (∃ xs ys, a = .lst xs ∧ b = .lst ys) ∨ ∃ xs ys, a = .tup xs ∧ b = .tup ys := by
      rcases plain_cases pa with h | ⟨xs, rfl⟩ | ⟨xs, rfl⟩
      · cases h <;> simp [D.isLst, D.isTup] at hk
      · rcases plain_cases pb with h | ⟨ys, rfl⟩ | ⟨ys, rfl⟩
        · cases h <;> simp [D.isLst, D.isTup] at hk
        · exact .inr ⟨xs, ys, rfl, rfl⟩
        · simp [D.isLst, D.isTup] at hk
      · rcases plain_cases pb with h | ⟨ys, rfl⟩ | ⟨ys, rfl⟩
        · cases h <;> simp [D.isLst, D.isTup] at hk
        · simp [D.isLst, D.isTup] at hk
        · exact .inl ⟨xs, ys, rfl, rfl⟩
    rcases both with ⟨xs, ys, rfl, rfl⟩ | ⟨xs, ys, rfl, rfl⟩
    · obtain ⟨hl, m, H, hm⟩ := rec xs (.inr rfl)
      rw [same_lst, sames_zip]
      refine exs_one (ex_ret (ev_andP (ev_cmp c_eqN (ev_len bl (by walk_at "nm") rfl) (ev_len bl (by walk_at "nm") rfl)) fun _ => ev_one (ev_all bl (ev_lcE (own := [("x", 2), ("y", 3)]) (fun p : D × D => .tup [p.1, p.2]) .bl (fun p => D.same p.1 p.2) (xs.zip ys) (it_zipL rfl bl.zip (by walk_at "nm") (by walk_at "nm")) (by walk_at "blk") rfl (by rw [List.length_zip]; omega) fun p hp => lcp0 (tg_tup (tgs_cons (tg_name (i := 2) (by walk_at "st")) (tgs_cons (tg_name (i := 3) (by walk_at "st")) tgs_nil))) (ev_call H (Nat.le_refl _) rfl (evs_cons (by walk_at "nm") (evs_cons (by walk_at "nm") evs_nil)) ⟨p.1, p.2, hm _ (List.of_mem_zip hp).1, D.plain.lst pb _ (List.of_mem_zip hp).2, rfl, rfl, rfl⟩)))) ⟨rfl, rfl⟩)
    · obtain ⟨hl, m, H, hm⟩ := rec xs (.inl rfl)
      rw [same_tup, sames_zip]
      refine exs_one (ex_ret (ev_andP (ev_cmp c_eqN (ev_len bl (by walk_at "nm") rfl) (ev_len bl (by walk_at "nm") rfl)) fun _ => ev_one (ev_all bl (ev_lcE (own := [("x", 2), ("y", 3)]) (fun p : D × D => .tup [p.1, p.2]) .bl (fun p => D.same p.1 p.2) (xs.zip ys) (it_zipT rfl bl.zip (by walk_at "nm") (by walk_at "nm")) (by walk_at "blk") rfl (by rw [List.length_zip]; omega) fun p hp => lcp0 (tg_tup (tgs_cons (tg_name (i := 2) (by walk_at "st")) (tgs_cons (tg_name (i := 3) (by walk_at "st")) tgs_nil))) (ev_call H (Nat.le_refl _) rfl (evs_cons (by walk_at "nm") (evs_cons (by walk_at "nm") evs_nil)) ⟨p.1, p.2, hm _ (List.of_mem_zip hp).1, D.plain.tup pb _ (List.of_mem_zip hp).2, rfl, rfl, rfl⟩)))) ⟨rfl, rfl⟩)
  · refine exs_cons (ex_if (k := (a.isBl || a.isLst || a.isTup) || (b.isBl || b.isLst || b.isTup)) (B1 := B) (Tw.ts (tw_orP (ts_val (ev_callB (isi_blt ta) rfl bl.isinstance bt_isinstance (evs_cons (by walk_at "nm") (evs_cons (ev_tup (evs_cons (ev_bltn rfl bl.bool bt_bool rfl) (evs_cons (ev_bltn rfl bl.list bt_list rfl) (evs_cons (ev_bltn rfl bl.tuple bt_tuple rfl) evs_nil)))) evs_nil)) (by decide) (by decide)))
      fun _ => tw_or1 (ts_val (ev_callB (isi_blt tb) rfl bl.isinstance bt_isinstance (evs_cons (by walk_at "nm") (evs_cons (ev_tup (evs_cons (ev_bltn rfl bl.bool bt_bool rfl) (evs_cons (ev_bltn rfl bl.list bt_list rfl) (evs_cons (ev_bltn rfl bl.tuple bt_tuple rfl) evs_nil)))) evs_nil)) (by decide) (by decide))))) (fun hk2 => ?_) fun hk2 => exs_nil ?_)
    · have e : D.same a b = (a.isBl && (b.isBl && D.same a b)) := by
        rcases plain_cases pa with h | ⟨xs, rfl⟩ | ⟨xs, rfl⟩ <;> rcases plain_cases pb with h' | ⟨ys, rfl⟩ | ⟨ys, rfl⟩ <;> (try cases h) <;> (try cases h') <;> simp_all [D.isLst, D.isTup, D.isBl, D.same]
      rw [e]
      refine exs_one (ex_ret (ev_andP (ev_isi bl (isi_bool ta) bl.bool bt_bool (by walk_at "nm")) fun h1 => ev_andP (ev_isi bl (isi_bool tb) bl.bool bt_bool (by walk_at "nm")) fun h2 => ev_one ?_) ⟨rfl, rfl⟩)
      obtain ⟨x, rfl⟩ := bl_of h1
      obtain ⟨y, rfl⟩ := bl_of h2
      rw [same_bl]
      exact ev_cmp c_eqB (by walk_at "nm") (by walk_at "nm")
    · refine exs_cons (ex_if (k := a.isInt || b.isInt) (B1 := B) (Tw.ts (tw_orP (ts_val (ev_isi bl (isi_int ta) bl.int bt_int (by walk_at "nm"))) fun _ => tw_or1 (ts_val (ev_isi bl (isi_int tb) bl.int bt_int (by walk_at "nm"))))) (fun hk3 => ?_) fun hk3 => exs_nil ?_)
      · have e : D.same a b = (a.isInt && (b.isInt && D.same a b)) := by
          rcases plain_cases pa with h | ⟨xs, rfl⟩ | ⟨xs, rfl⟩ <;> rcases plain_cases pb with h' | ⟨ys, rfl⟩ | ⟨ys, rfl⟩ <;> (try cases h) <;> (try cases h') <;> simp_all [D.isLst, D.isTup, D.isBl, D.isInt, D.same]
        rw [e]
        refine exs_one (ex_ret (ev_andP (ev_isi bl (isi_int ta) bl.int bt_int (by walk_at "nm")) fun h1 => ev_andP (ev_isi bl (isi_int tb) bl.int bt_int (by walk_at "nm")) fun h2 => ev_one ?_) ⟨rfl, rfl⟩)
        simp only [Bool.or_eq_false_iff] at hk2
        obtain ⟨x, rfl⟩ := int_of h1 hk2.1.1.1
        obtain ⟨y, rfl⟩ := int_of h2 hk2.2.1.1
        rw [same_int]
        exact ev_cmp c_eqI (by walk_at "nm") (by walk_at "nm")
      · refine exs_cons (ex_if (k := a.isStr || b.isStr) (B1 := B) (Tw.ts (tw_orP (ts_val (ev_isi bl (isi_str ta) bl.str bt_str (by walk_at "nm"))) fun _ => tw_or1 (ts_val (ev_isi bl (isi_str tb) bl.str bt_str (by walk_at "nm"))))) (fun hk4 => ?_) fun hk4 => exs_nil ?_)
        · have e : D.same a b = (a.isStr && (b.isStr && D.same a b)) := by
            rcases plain_cases pa with h | ⟨xs, rfl⟩ | ⟨xs, rfl⟩ <;> rcases plain_cases pb with h' | ⟨ys, rfl⟩ | ⟨ys, rfl⟩ <;> (try cases h) <;> (try cases h') <;> simp_all [D.isLst, D.isTup, D.isBl, D.isInt, D.isStr, D.same]
          rw [e]
          refine exs_one (ex_ret (ev_andP (ev_isi bl (isi_str ta) bl.str bt_str (by walk_at "nm")) fun h1 => ev_andP (ev_isi bl (isi_str tb) bl.str bt_str (by walk_at "nm")) fun h2 => ev_one ?_) ⟨rfl, rfl⟩)
          obtain ⟨x, rfl⟩ := str_of h1
          obtain ⟨y, rfl⟩ := str_of h2
          rw [same_str]
          exact ev_cmp c_eqS (by walk_at "nm") (by walk_at "nm")
        · have e : D.same a b = (a.isNon && b.isNon) := by
            rcases plain_cases pa with h | ⟨xs, rfl⟩ | ⟨xs, rfl⟩ <;> rcases plain_cases pb with h' | ⟨ys, rfl⟩ | ⟨ys, rfl⟩ <;> (try cases h) <;> (try cases h') <;> simp_all [D.isLst, D.isTup, D.isBl, D.isInt, D.isStr, D.isNon, D.same]
          rw [e]
          exact exs_one (ex_ret (ev_andP (ev_cmp c_isN (by walk_at "nm") ev_non) fun _ => ev_one (ev_cmp c_isN (by walk_at "nm") ev_non)) ⟨rfl, rfl⟩)
theorem has__law_same {T : Top} {f : Addr} {fd : FuncData} (bl : Bl T) (F : Fun T.K "_law_same" "_law_same" s__law_same f fd) (hm : T.mg "_law_same" = some (.ref f)) : ∀ n, HasFn T (n + 1) "_law_same" (C__law_same n)
  | 0 => by
    refine fn_ok F sc__law_same hm (F.binds fun _ _ _ _ _ _ us hl => match us, hl with | [_, _], _ => rfl) (fun ds B r B' ⟨a, b, _, _, h, _⟩ => by rw [h]; rfl) fun ds B r B' ⟨a, b, h1, h2, h3, h4, h5⟩ => ?_
    subst h3 h4 h5
    have h1' : a.Scl := h1
    exact same_body bl 0 a b B' h1'.plain h2 fun xs hx => by rcases hx with rfl | rfl <;> cases h1'
  | n + 1 => by
    have H := has__law_same bl F hm n
    refine fn_ok F sc__law_same hm (F.binds fun _ _ _ _ _ _ us hl => match us, hl with | [_, _], _ => rfl) (fun ds B r B' ⟨a, b, _, _, h, _⟩ => by rw [h]; rfl) fun ds B r B' ⟨a, b, h1, h2, h3, h4, h5⟩ => ?_
    subst h3 h4 h5
    refine same_body bl (n + 1) a b B' h1.plain h2 fun xs hx => ?_
    rcases h1 with h1 | ⟨ys, h1, hl, hy⟩
    · rcases hx with rfl | rfl <;> cases h1
    · have e : xs = ys := by rcases hx with rfl | rfl <;> rcases h1 with h1 | h1 <;> cases h1 <;> rfl
      subst e
      exact ⟨hl, n, H, hy⟩
/-! ### _law_some, _law_market -/
def someStep (s : List Nat × List Nat × Bag) : List Nat × List Nat × Bag := (s.1.eraseIdx (takeN s.2.2 s.1.length), s.2.1 ++ [s.1.getD (takeN s.2.2 s.1.length) 0], takeB s.2.2 s.1.length)
def someSt (folk : Nat) (B : Bag) : Nat → List Nat × List Nat × Bag
  | 0 => (List.range folk, [], B)
  | i + 1 => someStep (someSt folk B i)
theorem cons_erase_perm : ∀ {l : List Nat} {k : Nat} (h : k < l.length), (l[k] :: l.eraseIdx k).Perm l
  | [], _, h => absurd h (Nat.not_lt_zero _)
  | x :: xs, 0, _ => List.Perm.refl _
  | x :: xs, k + 1, h => by
    have ih := cons_erase_perm (l := xs) (k := k) (by simpa using h)
    exact (List.Perm.swap x _ _).trans (ih.cons x)
theorem erase_map {α β : Type} (f : α → β) : ∀ (l : List α) (k : Nat), (l.map f).eraseIdx k = (l.eraseIdx k).map f
  | [], _ => rfl
  | x :: xs, 0 => rfl
  | x :: xs, k + 1 => by
    show f x :: (xs.map f).eraseIdx k = f x :: (xs.eraseIdx k).map f
    rw [erase_map f xs k]
theorem some_inv {folk : Nat} {B : Bag} {m : Int} (hB : BagN m B) : ∀ i, i ≤ folk → ((someSt folk B i).2.1 ++ (someSt folk B i).1).Perm (List.range folk) ∧ (someSt folk B i).2.1.length = i ∧ BagN (m + i) (someSt folk B i).2.2
  | 0, _ => ⟨by simp [someSt], rfl, by simpa [someSt] using hB⟩
  | i + 1, h => by
    obtain ⟨h1, h2, h3⟩ := some_inv (folk := folk) hB i (by omega)
    have hl := h1.length_eq
    rw [List.length_append, h2, List.length_range] at hl
    have hp : 0 < (someSt folk B i).1.length := by omega
    have hk := takeN_lt (B := (someSt folk B i).2.2) hp
    refine ⟨?_, ?_, ?_⟩
    · refine List.Perm.trans ?_ h1
      show ((someSt folk B i).2.1 ++ [(someSt folk B i).1.getD _ 0] ++ (someSt folk B i).1.eraseIdx _).Perm _
      rw [List.append_assoc]
      refine List.Perm.append_left _ ?_
      rw [List.getD_eq_getElem?_getD, List.getElem?_eq_getElem hk]
      exact cons_erase_perm hk
    · show ((someSt folk B i).2.1 ++ [_]).length = _
      rw [List.length_append, h2]
      rfl
    · have := takeB_ok (many := (someSt folk B i).1.length) h3
      show BagN _ (takeB _ _)
      rw [show m + ((i + 1 : Nat) : Int) = m + (i : Nat) + 1 by omega]
      exact this
def someTurns (folk least : Nat) (B : Bag) : Nat := least + takeN B (folk - least + 1)
def someL (folk least : Nat) (B : Bag) : List Nat := sortN (someSt folk (takeB B (folk - least + 1)) (someTurns folk least B)).2.1
def someB (folk least : Nat) (B : Bag) : Bag := (someSt folk (takeB B (folk - least + 1)) (someTurns folk least B)).2.2
theorem turns_le {folk least : Nat} {B : Bag} (h : least ≤ folk) : someTurns folk least B ≤ folk := by
  have := takeN_lt (B := B) (many := folk - least + 1) (by omega)
  unfold someTurns
  omega
theorem someL_ok {folk least : Nat} {B : Bag} {m : Int} (hB : BagN m B) (h : least ≤ folk) : (someL folk least B).Pairwise (· < ·) ∧ (∀ w ∈ someL folk least B, w < folk) ∧ least ≤ (someL folk least B).length ∧ (someL folk least B).length ≤ folk ∧ BagN (m + 1 + folk) (someB folk least B) := by
  have ht := turns_le (B := B) h
  obtain ⟨h1, h2, h3⟩ := some_inv (takeB_ok (many := folk - least + 1) hB) (someTurns folk least B) ht
  have nd := (h1.nodup_iff.mpr List.nodup_range)
  have hlen : (someL folk least B).length = someTurns folk least B := by unfold someL; rw [(sortN_perm _).length_eq, h2]
  refine ⟨strict_of (sortN_pair _) ((sortN_perm _).nodup_iff.mpr (List.nodup_append.mp nd).1), fun w hw => ?_, ?_, ?_, h3.mono (by omega)⟩
  · exact List.mem_range.mp (h1.mem_iff.mp (List.mem_append_left _ ((sortN_perm _).mem_iff.mp hw)))
  · rw [hlen]; unfold someTurns; omega
  · rw [hlen]; exact ht
abbrev s__law_some : Stmt := topS 42
abbrev n__law_some : List Str := ["bag", "folk1", "least", "left", "found", "turn"]
theorem sc__law_some : FnScope n__law_some ["bag", "folk1", "least"] (defScope s__law_some) := ⟨rfl, rfl, rfl, by decide +kernel, rfl, by decide +kernel, by decide +kernel⟩
def C__law_some : Con := fun ds B r B' => ∃ (folk least : Nat), least ≤ folk ∧ folk ≤ 1000 ∧ BagN 900000000000 B ∧ ds = [.bag, nD folk, nD least] ∧ r = .d (lotD (someL folk least B)) ∧ B' = someB folk least B
theorem has__law_some {T : Top} {f : Addr} {fd : FuncData} (bl : Bl T) (H : HasFn T 1 "_law_take" C__law_take) (F : Fun T.K "_law_some" "_law_some" s__law_some f fd) (hm : T.mg "_law_some" = some (.ref f)) : HasFn T 2 "_law_some" C__law_some := by
  refine fn_ok F sc__law_some hm (F.binds fun _ _ _ _ _ _ us hl => match us, hl with | [_, _, _], _ => rfl) (fun ds B r B' ⟨_, _, _, _, _, h, _⟩ => by rw [h]; rfl) fun ds B r B' ⟨folk, least, h1, h2, hB, h3, h4, h5⟩ => ?_
  subst h3 h4 h5
  have ht := turns_le (B := B) h1
  have hB1 := takeB_ok (many := folk - least + 1) hB
  refine exs_cons (ex_setR (i := 3) (r := .o (.l ((List.range folk).map nD))) (by walk_at "st") (evr_listRange rfl bl.list rfl bl.range (by walk_at "nm") (by omega)) ?_ (fun _ _ => rfl))
  refine exs_cons (ex_setR (i := 4) (by walk_at "st") (evr_lst evs_nil) ?_ (fun _ _ => rfl))
  let ρ1 (s : List Nat × List Nat × Bag) : Rho := [.d .bag, .d (nD folk), .d (nD least), .o (.l (s.1.map nD)), .o (.l (s.2.1.map nD)), .u]
  refine exs_cons (ex_for (B1 := takeB B (folk - least + 1)) (ds := (List.range (someTurns folk least B)).map nD) (it_rangeN (m := someTurns folk least B) rfl bl.range (EvR.to (ev_bin b_add (by walk_at "nm") (ev_call H (by show 1 ≤ 1; omega) rfl (evs_cons (by walk_at "nm") (evs_cons (EvR.to (ev_bin b_add (ev_bin b_sub (by walk_at "nm") (by walk_at "nm")) ev_int) ?e1) evs_nil)) ⟨folk - least + 1, by omega, by omega, hB.mono (by omega), rfl, rfl, rfl⟩)) ?e2) (by omega)) (fun i ρ B2 => ρ = ρ1 (someSt folk (takeB B (folk - least + 1)) i) ∧ B2 = (someSt folk (takeB B (folk - least + 1)) i).2.2) ⟨rfl, rfl⟩ (fun i d ρ' B2 hd ⟨h1, h2⟩ => ?_) fun ρ' B2 h => ?_)
  case e1 =>
    show D.int _ = D.int _
    congr 1
    omega
  case e2 => rfl
  · obtain ⟨x, hx, rfl, hm, hi, _⟩ := map_get hd
    rw [List.length_range] at hi
    subst h1 h2
    obtain ⟨g1, g2, g3⟩ := some_inv (folk := folk) hB1 i (by omega)
    have hl := g1.length_eq
    rw [List.length_append, g2, List.length_range] at hl
    generalize hs : someSt folk (takeB B (folk - least + 1)) i = s at *
    have hp : 0 < s.1.length := by omega
    have hk := takeN_lt (B := s.2.2) hp
    refine ⟨_, _, tg_name (i := 5) (by walk_at "st"), exs_cons (ex_appendPop (i := 4) (j := 3) (k := takeN s.2.2 s.1.length) (ds := s.2.1.map nD) (xs := s.1.map nD) (y := nD (s.1.getD (takeN s.2.2 s.1.length) 0)) (B1 := takeB s.2.2 s.1.length) rfl (by walk_at "vis") rfl rfl (by walk_at "vis") rfl (by decide) (ev_call H (by show 1 ≤ 1; omega) rfl (evs_cons (by walk_at "nm") (evs_cons (by rw [show nD s.1.length = nD (s.1.map nD).length by rw [List.length_map]]; exact ev_lenOwn (i := 3) (ds := s.1.map nD) rfl (by walk_at "vis") rfl rfl bl.len) evs_nil)) ⟨s.1.length, hp, by omega, g3.mono (by omega), rfl, rfl, rfl⟩) ?ix (by omega) (exs_fgt (is := [5]) (exs_nil ⟨?_, ?_⟩)) (by rw [List.length_map]; omega))⟩
    · rw [List.getElem?_map, List.getElem?_eq_getElem hk, List.getD_eq_getElem?_getD, List.getElem?_eq_getElem hk]
      rfl
    · show _ = ρ1 (someStep (someSt _ _ i))
      rw [hs]
      dsimp only [ρ1, someStep]
      rw [List.map_append, ← erase_map nD]
      rfl
    · show _ = (someStep (someSt _ _ i)).2.2
      rw [hs]
      rfl
  · obtain ⟨h1, h2⟩ := h
    rw [List.length_map, List.length_range] at h1 h2
    subst h1 h2
    exact exs_fz (i := 4) rfl (exs_one (ex_ret (ev_tuple bl (EvR.fz (evr_sorted bl (k_sortN (ns := (someSt folk (takeB B (folk - least + 1)) (someTurns folk least B)).2.1)) (by walk_at "nm"))) rfl) ⟨rfl, rfl⟩))
theorem maxL_spec {ns : List Int} (h : ns ≠ []) : maxL ns ∈ ns ∧ ∀ y ∈ ns, y ≤ maxL ns := by
  unfold maxL
  cases e : ns.max? with
  | none => exact absurd (List.max?_eq_none_iff.mp e) h
  | some a => exact List.max?_eq_some_iff.mp e
theorem minL_spec {ns : List Int} (h : ns ≠ []) : minL ns ∈ ns ∧ ∀ y ∈ ns, minL ns ≤ y := by
  unfold minL
  cases e : ns.min? with
  | none => exact absurd (List.min?_eq_none_iff.mp e) h
  | some a => exact List.min?_eq_some_iff.mp e
def wAt (ws : List Int) (w : Nat) : Int := ws.getD w 0
theorem wAt_get {ws : List Int} {w : Nat} (h : w < ws.length) : (ws.map D.int)[w]? = some (.int (wAt ws w)) := by
  rw [List.getElem?_map, List.getElem?_eq_getElem h]
  simp [wAt, List.getD, List.getElem?_eq_getElem h]
def bestOf (ws : List Int) (some' : List Nat) : List Nat := some'.filter fun w => decide (wAt ws w = maxL (some'.map (wAt ws)))
def winOf (ws : List Int) (some' : List Nat) (B : Bag) : Nat := (bestOf ws some').getD (takeN B (bestOf ws some').length) 0
def othOf (ws : List Int) (some' : List Nat) (B : Bag) : List Nat := some'.filter fun w => !decide (w = winOf ws some' B)
def saleOf (ws : List Int) (some' : List Nat) (B : Bag) : Sale := ⟨winOf ws some' B, maxL ((othOf ws some' B).map (wAt ws)), othOf ws some' B⟩
structure SaleFit (ws : List Int) (s : Sale) : Prop where
  mx : maxL (s.others.map (wAt ws)) = s.price
  wn : s.price ≤ wAt ws s.win
theorem best_ne {ws : List Int} {some' : List Nat} (h : some' ≠ []) : bestOf ws some' ≠ [] := by
  have hm := (maxL_spec (ns := some'.map (wAt ws)) (by simpa using h)).1
  obtain ⟨w, hw, e⟩ := List.mem_map.mp hm
  intro z
  have : w ∈ bestOf ws some' := List.mem_filter.mpr ⟨hw, decide_eq_true e⟩
  rw [z] at this
  cases this
theorem win_mem {ws : List Int} {some' : List Nat} {B : Bag} (h : some' ≠ []) : winOf ws some' B ∈ bestOf ws some' := by
  have hp : 0 < (bestOf ws some').length := List.length_pos_iff.mpr (best_ne h)
  have hk := takeN_lt (B := B) hp
  unfold winOf
  rw [List.getD_eq_getElem?_getD, List.getElem?_eq_getElem hk]
  exact List.getElem_mem hk
theorem wAt_mem {ws : List Int} {w : Nat} (h : w < ws.length) : wAt ws w ∈ ws := by
  unfold wAt
  rw [List.getD_eq_getElem?_getD, List.getElem?_eq_getElem h]
  exact List.getElem_mem h
theorem sale_ok {folk : Nat} {top : Int} {ws : List Int} {some' : List Nat} {B : Bag} (hl : ws.length = folk) (hw : ∀ x ∈ ws, 1 ≤ x ∧ x ≤ top) (up : some'.Pairwise (· < ·)) (lt : ∀ w ∈ some', w < folk) (h2 : 2 ≤ some'.length) : SaleOk folk top (saleOf ws some' B) ∧ SaleFit ws (saleOf ws some' B) := by
  have hne : some' ≠ [] := fun z => by rw [z] at h2; simp at h2
  have hwin := win_mem (ws := ws) (B := B) hne
  have hws : winOf ws some' B ∈ some' := (List.mem_filter.mp hwin).1
  have one : othOf ws some' B ≠ [] := by
    match some', up, h2, hne with
    | a :: b :: r, up, _, _ =>
      have hab : a < b := (List.pairwise_cons.mp up).1 b List.mem_cons_self
      intro z
      have nota : ∀ x ∈ a :: b :: r, x = winOf ws (a :: b :: r) B := fun x hx => Classical.byContradiction fun hc => by
        have : x ∈ othOf ws (a :: b :: r) B := List.mem_filter.mpr ⟨hx, by simp [hc]⟩
        rw [z] at this
        cases this
      have h1 := nota a List.mem_cons_self
      have h2 := nota b (List.mem_cons_of_mem _ List.mem_cons_self)
      omega
  have osub : ∀ w ∈ othOf ws some' B, w ∈ some' := fun w h => (List.mem_filter.mp h).1
  have hmx := maxL_spec (ns := (othOf ws some' B).map (wAt ws)) (by simpa using one)
  have hall := maxL_spec (ns := some'.map (wAt ws)) (by simpa using hne)
  have hwv : wAt ws (winOf ws some' B) = maxL (some'.map (wAt ws)) := by simpa using (List.mem_filter.mp hwin).2
  have hprice : 1 ≤ maxL ((othOf ws some' B).map (wAt ws)) ∧ maxL ((othOf ws some' B).map (wAt ws)) ≤ top ∧ maxL ((othOf ws some' B).map (wAt ws)) ≤ maxL (some'.map (wAt ws)) := by
    obtain ⟨w, h1, h2⟩ := List.mem_map.mp hmx.1
    have h3 := hw _ (wAt_mem (ws := ws) (w := w) (by rw [hl]; exact lt w (osub w h1)))
    have h4 := hall.2 (wAt ws w) (List.mem_map.mpr ⟨w, osub w h1, rfl⟩)
    omega
  refine ⟨⟨lt _ hws, hprice.1, hprice.2.1, one, fun w h => lt w (osub w h), List.Pairwise.filter _ up, fun z => ?_⟩, ⟨rfl, ?_⟩⟩
  · have := (List.mem_filter.mp z).2
    simp at this
    exact this rfl
  · show _ ≤ wAt ws (winOf ws some' B)
    rw [hwv]
    exact hprice.2.2
def logSt (ws : List Int) (folk : Nat) (B : Bag) : Nat → List Sale × Bag
  | 0 => ([], B)
  | i + 1 => ((logSt ws folk B i).1 ++ [saleOf ws (someL folk 2 (logSt ws folk B i).2) (someB folk 2 (logSt ws folk B i).2)], takeB (someB folk 2 (logSt ws folk B i).2) (bestOf ws (someL folk 2 (logSt ws folk B i).2)).length)
theorem log_inv {folk : Nat} {top : Int} {ws : List Int} {B : Bag} {m : Int} (f2 : 2 ≤ folk) (hl : ws.length = folk) (hw : ∀ x ∈ ws, 1 ≤ x ∧ x ≤ top) (hB : BagN m B) : ∀ i, (logSt ws folk B i).1.length = i ∧ (∀ s ∈ (logSt ws folk B i).1, SaleOk folk top s ∧ SaleFit ws s) ∧ BagN (m + i * (folk + 2)) (logSt ws folk B i).2
  | 0 => ⟨rfl, fun s h => (nomatch h), by simpa [logSt] using hB⟩
  | i + 1 => by
    obtain ⟨h1, h2, h3⟩ := log_inv f2 hl hw hB i
    obtain ⟨g1, g2, g3, g4, g5⟩ := someL_ok (folk := folk) (least := 2) h3 f2
    refine ⟨?_, fun s hs => ?_, ?_⟩
    · show ((logSt ws folk B i).1 ++ [_]).length = _
      rw [List.length_append, h1]
      rfl
    · have hs' : s ∈ (logSt ws folk B i).1 ++ [_] := hs
      rcases List.mem_append.mp hs' with h | h
      · exact h2 s h
      · rw [List.mem_singleton.mp h]
        exact sale_ok hl hw g1 g2 g3
    · have := takeB_ok (many := (bestOf ws (someL folk 2 (logSt ws folk B i).2)).length) g5
      show BagN _ (takeB _ _)
      refine this.mono ?_
      have e : ((i + 1 : Nat) : Int) * ((folk : Int) + 2) = (i : Int) * ((folk : Int) + 2) + ((folk : Int) + 2) := by
        rw [show ((i + 1 : Nat) : Int) = (i : Int) + 1 by omega, Int.add_mul]
        omega
      rw [e]
      omega
def mkF (mf : Nat) (B : Bag) : Nat := 2 + takeN B (mf - 1)
def mkT (mf mt : Nat) (B : Bag) : Nat := 1 + takeN (takeB B (mf - 1)) mt
def mkB2 (mf mt : Nat) (B : Bag) : Bag := takeB (takeB B (mf - 1)) mt
def wStep (t : Nat) (_ : Nat) (B : Bag) : Int × Bag := (((1 + takeN B t : Nat) : Int), takeB B t)
def mkW (mf mt : Nat) (B : Bag) : List Int := (mapT (wStep (mkT mf mt B)) (List.range (mkF mf B)) (mkB2 mf mt B)).1
def mkB3 (mf mt : Nat) (B : Bag) : Bag := (mapT (wStep (mkT mf mt B)) (List.range (mkF mf B)) (mkB2 mf mt B)).2
def mkL (mf mt ms : Nat) (B : Bag) : List Sale := (logSt (mkW mf mt B) (mkF mf B) (takeB (mkB3 mf mt B) (ms + 1)) (takeN (mkB3 mf mt B) (ms + 1))).1
def mkB (mf mt ms : Nat) (B : Bag) : Bag := (logSt (mkW mf mt B) (mkF mf B) (takeB (mkB3 mf mt B) (ms + 1)) (takeN (mkB3 mf mt B) (ms + 1))).2
structure MkOk (mf mt ms : Nat) (m : Int) (B : Bag) : Prop where
  f2 : 2 ≤ mkF mf B
  fm : mkF mf B ≤ mf
  t1 : 1 ≤ mkT mf mt B
  tm : mkT mf mt B ≤ mt
  b2 : BagN (m + 2) (mkB2 mf mt B)
  wl : (mkW mf mt B).length = mkF mf B
  wb : ∀ x ∈ mkW mf mt B, 1 ≤ x ∧ x ≤ (mkT mf mt B : Nat)
  b3 : BagN (m + 2 + mf) (mkB3 mf mt B)
theorem mk_ok {mf mt ms : Nat} {m : Int} {B : Bag} (hf : 2 ≤ mf) (ht : 1 ≤ mt) (hB : BagN m B) : MkOk mf mt ms m B := by
  have h1 := takeN_lt (B := B) (many := mf - 1) (by omega)
  have h2 := takeN_lt (B := takeB B (mf - 1)) (many := mt) (by omega)
  have b2 := takeB_ok (many := mt) (takeB_ok (many := mf - 1) hB)
  have ft : 0 < mkT mf mt B := by unfold mkT; omega
  have hi := mapT_inv (f := wStep (mkT mf mt B)) (fun n B => BagN (m + 1 + 1 + n) B) (fun x => 1 ≤ x ∧ x ≤ (mkT mf mt B : Nat)) (List.range (mkF mf B)) (mkB2 mf mt B) 0 (by simpa [mkB2] using b2) fun a ha n C _ _ h => by
    have := takeN_lt (B := C) ft
    refine ⟨?_, ?_⟩
    · have := takeB_ok (many := mkT mf mt B) h
      rw [show m + 1 + 1 + ((n + 1 : Nat) : Int) = m + 1 + 1 + (n : Nat) + 1 by omega]
      exact this
    · show 1 ≤ ((1 + takeN C (mkT mf mt B) : Nat) : Int) ∧ ((1 + takeN C (mkT mf mt B) : Nat) : Int) ≤ _
      omega
  have fm : mkF mf B ≤ mf := by unfold mkF; omega
  refine ⟨by unfold mkF; omega, fm, ft, by unfold mkT; omega, b2.mono (by omega), ?_, hi.2.1, ?_⟩
  · have := hi.2.2
    rw [List.length_range] at this
    exact this
  · have := hi.1
    rw [List.length_range] at this
    exact this.mono (by omega)
theorem mk_log {mf mt ms : Nat} {m : Int} {B : Bag} (hf : 2 ≤ mf) (h8 : mf ≤ 8) (ht : 1 ≤ mt) (h1000 : mt ≤ 1000) (hs : ms ≤ 8) (hB : BagN m B) : LogOk (mkF mf B) (mkT mf mt B : Nat) (mkL mf mt ms B) ∧ (∀ s ∈ mkL mf mt ms B, SaleFit (mkW mf mt B) s) ∧ (mkL mf mt ms B).length ≤ ms ∧ BagN (m + 1000) (mkB mf mt ms B) := by
  have ok := mk_ok (ms := ms) hf ht hB
  have b4 := takeB_ok (many := ms + 1) ok.b3
  have hk := takeN_lt (B := mkB3 mf mt B) (many := ms + 1) (by omega)
  obtain ⟨h1, h2, h3⟩ := log_inv (top := (mkT mf mt B : Nat)) ok.f2 ok.wl ok.wb b4 (takeN (mkB3 mf mt B) (ms + 1))
  have hlen : (mkL mf mt ms B).length ≤ ms := by unfold mkL; rw [h1]; omega
  have := ok.fm
  have := ok.t1
  have := ok.tm
  refine ⟨⟨ok.f2, by omega, by omega, by omega, by omega, fun s hs => (h2 s hs).1⟩, fun s hs => (h2 s hs).2, hlen, h3.mono ?_⟩
  have e : (takeN (mkB3 mf mt B) (ms + 1) : Int) * ((mkF mf B : Int) + 2) ≤ 8 * 10 := Int.mul_le_mul (by omega) (by omega) (by omega) (by omega)
  omega
abbrev s__law_market : Stmt := topS 43
abbrev n__law_market : List Str := ["bag", "most_folk", "most_top", "most_sales", "worths1", "log1", "turn", "folk1", "top1", "some", "best", "winner", "others", "who", "one"]
theorem sc__law_market : FnScope n__law_market ["bag", "most_folk", "most_top", "most_sales"] (defScope s__law_market) := ⟨rfl, rfl, rfl, by decide +kernel, rfl, by decide +kernel, by decide +kernel⟩
def C__law_market : Con := fun ds B r B' => ∃ (mf mt ms : Nat), 2 ≤ mf ∧ mf ≤ 8 ∧ 1 ≤ mt ∧ mt ≤ 1000 ∧ ms ≤ 8 ∧ BagN 500000000000 B ∧ ds = [.bag, nD mf, nD mt, nD ms] ∧ r = .d (.tup [nD (mkF mf B), nD (mkT mf mt B), logD (mkL mf mt ms B), .tup ((mkW mf mt B).map .int)]) ∧ B' = mkB mf mt ms B
theorem has__law_market {T : Top} {f : Addr} {fd : FuncData} (bl : Bl T) (H : HasFn T 1 "_law_take" C__law_take) (H2 : HasFn T 2 "_law_some" C__law_some) (F : Fun T.K "_law_market" "_law_market" s__law_market f fd) (hm : T.mg "_law_market" = some (.ref f)) : HasFn T 3 "_law_market" C__law_market := by
  refine fn_ok F sc__law_market hm (F.binds fun _ _ _ _ _ _ us hl => match us, hl with | [_, _, _, _], _ => rfl) (fun ds B r B' ⟨_, _, _, _, _, _, _, _, _, h, _⟩ => by rw [h]; rfl) fun ds B r B' ⟨mf, mt, ms, h1, h2, h3, h4, h5, hB, h6, h7, h8⟩ => ?_
  subst h6 h7 h8
  have ok := mk_ok (ms := ms) (mt := mt) h1 h3 hB
  have lok := fun i => log_inv (m := 500000000000 + 2 + mf + 1) (top := (mkT mf mt B : Nat)) ok.f2 ok.wl ok.wb (takeB_ok (many := ms + 1) ok.b3) i
  have fm := ok.fm
  have tm := ok.tm
  have t1 := ok.t1
  have f2 := ok.f2
  have wl := ok.wl
  have wb := ok.wb
  have hk := takeN_lt (B := mkB3 mf mt B) (many := ms + 1) (by omega)
  refine exs_cons (ex_asgS (x := .tup [nD (mkF mf B), nD (mkT mf mt B)]) (B1 := mkB2 mf mt B) (ev_tup (evs_cons (B1 := takeB B (mf - 1)) (EvR.to (ev_bin (b_add (i := 2) (j := ((takeN B (mf - 1) : Nat) : Int))) ev_int (ev_call H (by show 1 ≤ 2; omega) rfl (evs_cons (by walk_at "nm") (evs_cons (EvR.to (y := nD (mf - 1)) (ev_bin b_sub (by walk_at "nm") ev_int) ?e1) evs_nil)) ⟨mf - 1, by omega, by omega, hB.mono (by omega), rfl, rfl, rfl⟩)) ?e2)
    (evs_cons (EvR.to (ev_bin (b_add (i := 1) (j := ((takeN (takeB B (mf - 1)) mt : Nat) : Int))) ev_int (ev_call H (by show 1 ≤ 2; omega) rfl (evs_cons (by walk_at "nm") (evs_cons (by walk_at "nm") evs_nil)) ⟨mt, by omega, by omega, (takeB_ok hB).mono (by omega), rfl, rfl, rfl⟩)) ?e3) evs_nil))) (tg_tup (tgs_cons (tg_name (i := 7) (by walk_at "st")) (tgs_cons (tg_name (i := 8) (by walk_at "st")) tgs_nil))) ?_ (ss_cell rfl))
  case e1 =>
    exact congrArg D.int (by omega)
  case e2 =>
    exact congrArg D.int (by unfold mkF; omega)
  case e3 =>
    exact congrArg D.int (by unfold mkT; omega)
  refine exs_cons (ex_set (i := 4) (x := .tup ((mkW mf mt B).map .int)) (B1 := mkB3 mf mt B) (by walk_at "st") (ev_tuple bl (ev_lcBI (own := [("who", 13)]) (fun n C => BagN (500000000000 + 2 + n) C) (List.range (mkF mf B)) nD .int (wStep (mkT mf mt B)) (it_rangeN rfl bl.range (by walk_at "nm") (by omega)) (by walk_at "blk") rfl (by rw [List.length_range]; omega) (ok.b2.mono (by omega)) fun w hw n C hn hC => ?_) rfl) ?_ (fun _ _ => rfl))
  · rw [List.length_range] at hn
    have hT : 0 < mkT mf mt B := t1
    refine ⟨⟨_, _, tg_name (i := 13) (by walk_at "st"), by decide, EvR.to (ev_bin (b_add (i := 1) (j := ((takeN C (mkT mf mt B) : Nat) : Int))) ev_int (ev_call H (by show 1 ≤ 2; omega) rfl (evs_cons (by walk_at "nm") (evs_cons (by walk_at "nm") evs_nil)) ⟨mkT mf mt B, hT, by omega, hC.mono (by omega), rfl, rfl, rfl⟩)) ?_⟩, ?_⟩
    · exact congrArg D.int (by show _ = ((1 + takeN C (mkT mf mt B) : Nat) : Int); omega)
    · have := takeB_ok (many := mkT mf mt B) hC
      show BagN _ (takeB C _)
      exact this.mono (by omega)
  refine exs_cons (ex_setR (i := 5) (by walk_at "st") (evr_lst evs_nil) ?_ (fun _ _ => rfl))
  generalize hF : mkF mf B = folk at *
  generalize hW : mkW mf mt B = ws at *
  generalize hT : mkT mf mt B = top at *
  let ρ1 (l : List Sale) : Rho := [.d .bag, .d (nD mf), .d (nD mt), .d (nD ms), .d (.tup (ws.map .int)), .o (.l (l.map Sale.d)), .u, .d (nD folk), .d (nD top), .u, .u, .u, .u, .u, .u]
  refine exs_cons (ex_for (B1 := takeB (mkB3 mf mt B) (ms + 1)) (ds := (List.range (takeN (mkB3 mf mt B) (ms + 1))).map nD) (it_rangeN rfl bl.range (ev_call H (by show 1 ≤ 2; omega) rfl (evs_cons (by walk_at "nm") (evs_cons (EvR.to (y := nD (ms + 1)) (ev_bin b_add (by walk_at "nm") ev_int) rfl) evs_nil)) ⟨ms + 1, by omega, by omega, ok.b3.mono (by omega), rfl, rfl, rfl⟩) (by omega)) (fun i ρ C => ρ = ρ1 (logSt ws folk (takeB (mkB3 mf mt B) (ms + 1)) i).1 ∧ C = (logSt ws folk (takeB (mkB3 mf mt B) (ms + 1)) i).2) ⟨?st, rfl⟩ (fun i d ρ' C hd ⟨h1, h2⟩ => ?_) fun ρ' C h => ?_)
  case st =>
    rfl
  · obtain ⟨x, hx, rfl, hm, hi, _⟩ := map_get hd
    rw [List.length_range] at hi
    obtain ⟨g1, g2, g3⟩ := lok i
    subst h1 h2
    have e80 : (i : Int) * ((folk : Int) + 2) ≤ 8 * 10 := Int.mul_le_mul (by omega) (by omega) (by omega) (by omega)
    generalize hs : logSt ws folk (takeB (mkB3 mf mt B) (ms + 1)) i = s at *
    obtain ⟨k1, k2, k3, k4, k5⟩ := someL_ok (folk := folk) (least := 2) g3 f2
    have sok := sale_ok (B := someB folk 2 s.2) wl wb k1 k2 k3
    have kne : someL folk 2 s.2 ≠ [] := fun z => by rw [z] at k3; simp at k3
    have bne : 0 < (bestOf ws (someL folk 2 s.2)).length := List.length_pos_iff.mpr (best_ne kne)
    have blen : (bestOf ws (someL folk 2 s.2)).length ≤ (someL folk 2 s.2).length := List.length_filter_le _ _
    have olen : (othOf ws (someL folk 2 s.2) (someB folk 2 s.2)).length ≤ (someL folk 2 s.2).length := List.length_filter_le _ _
    have osub : ∀ w ∈ othOf ws (someL folk 2 s.2) (someB folk 2 s.2), w < ws.length := fun w h => by rw [wl]; exact k2 w (List.mem_filter.mp h).1
    refine ⟨_, _, tg_name (i := 6) (by walk_at "st"), ?_⟩
    refine exs_cons (ex_set (i := 9) (B1 := someB folk 2 s.2) (x := lotD (someL folk 2 s.2)) (by walk_at "st") (ev_call H2 (by show 2 ≤ 2; omega) rfl (evs_cons (by walk_at "nm") (evs_cons (by walk_at "nm") (evs_cons ev_int evs_nil))) ⟨folk, 2, by omega, by omega, g3.mono (by omega), rfl, rfl, rfl⟩) ?_ (fun _ _ => rfl))
    refine exs_cons (ex_setF (i := 10) (own := [("who", 13), ("one", 14)]) nD nD (fun w => decide (wAt ws w = maxL ((someL folk 2 s.2).map (wAt ws)))) id (someL folk 2 s.2) (by walk_at "st") rfl (it_seq (by walk_at "nm") rfl) (by walk_at "blk") rfl (by omega) (fun w hw => lcp1 (tg_name (i := 13) (by walk_at "st")) (ts_cmp c_eqI (ev_ixN (by walk_at "nm") (by walk_at "nm") rfl (wAt_get (by rw [wl]; exact k2 w hw))) (ev_max bl (ev_lcE (own := [("one", 14)]) nD .int (wAt ws) (someL folk 2 s.2) (it_seq (by walk_at "nm") rfl) (by walk_at "blk") rfl (by omega) fun v hv => lcp0 (tg_name (i := 14) (by walk_at "st")) (ev_ixN (by walk_at "nm") (by walk_at "nm") rfl (wAt_get (by rw [wl]; exact k2 v hv)))) (by simpa using kne))) fun _ => (by walk_at "nm")) ?_)
    rw [List.map_id]
    have wmem := win_mem (ws := ws) (B := someB folk 2 s.2) kne
    have hkk := takeN_lt (B := someB folk 2 s.2) bne
    refine exs_cons (ex_set (i := 11) (B1 := takeB (someB folk 2 s.2) (bestOf ws (someL folk 2 s.2)).length) (x := nD (winOf ws (someL folk 2 s.2) (someB folk 2 s.2))) (by walk_at "st") (ev_ixN (i := takeN (someB folk 2 s.2) (bestOf ws (someL folk 2 s.2)).length) (x := .lst ((bestOf ws (someL folk 2 s.2)).map nD)) (by walk_at "nm") (ev_call H (by show 1 ≤ 2; omega) rfl (evs_cons (by walk_at "nm") (evs_cons (EvR.to (y := nD (bestOf ws (someL folk 2 s.2)).length) (ev_len bl (x := .lst ((bestOf ws (someL folk 2 s.2)).map nD)) (by walk_at "nm") rfl) (by rw [List.length_map])) evs_nil)) ⟨_, bne, by omega, k5.mono (by omega), rfl, rfl, rfl⟩) rfl ?ix) ?_ (fun _ _ => rfl))
    · rw [List.getElem?_map, List.getElem?_eq_getElem hkk]
      unfold winOf
      rw [List.getD_eq_getElem?_getD, List.getElem?_eq_getElem hkk]
      rfl
    generalize hB5 : takeB (someB folk 2 s.2) (bestOf ws (someL folk 2 s.2)).length = B5 at *
    refine exs_cons (ex_set (i := 12) (x := lotD (othOf ws (someL folk 2 s.2) (someB folk 2 s.2))) (by walk_at "st") (EvR.to (ev_tuple bl (ev_lcF (own := [("who", 13)]) nD nD (fun w => !decide (w = winOf ws (someL folk 2 s.2) (someB folk 2 s.2))) id (someL folk 2 s.2) (it_seq (by walk_at "nm") rfl) (by walk_at "blk") rfl (by omega) fun w hw => lcp1 (tg_name (i := 13) (by walk_at "st")) (ts_cmp c_neN (by walk_at "nm") (by walk_at "nm")) fun _ => (by walk_at "nm")) rfl) (by rw [List.map_id]; rfl)) ?_ (fun _ _ => rfl))
    refine exs_cons (ex_append (i := 5) (B1 := B5) (y := (saleOf ws (someL folk 2 s.2) (someB folk 2 s.2)).d) rfl (by walk_at "vis") rfl (ev_tup (evs_cons (by walk_at "nm") (evs_cons (ev_max bl (ev_lcE (own := [("who", 13)]) nD .int (wAt ws) (othOf ws (someL folk 2 s.2) (someB folk 2 s.2)) (it_seq (by walk_at "nm") rfl) (by walk_at "blk") rfl (by omega) fun v hv => lcp0 (tg_name (i := 13) (by walk_at "st")) (ev_ixN (by walk_at "nm") (by walk_at "nm") rfl (wAt_get (osub v hv)))) (fun z => sok.1.ne (List.map_eq_nil_iff.mp z))) (evs_cons (by walk_at "nm") evs_nil)))) (exs_fgt (is := [6, 9, 10, 11, 12]) (exs_nil ⟨?_, ?_⟩)) (by rw [List.length_map]; omega))
    · show _ = ρ1 (logSt _ _ _ (i + 1)).1
      unfold logSt
      rw [hs]
      dsimp only [ρ1]
      rw [List.map_append]
      rfl
    · show _ = (logSt _ _ _ (i + 1)).2
      unfold logSt
      rw [hs, hB5]
  · obtain ⟨h1, h2⟩ := h
    rw [List.length_map, List.length_range] at h1 h2
    have eL : (logSt ws folk (takeB (mkB3 mf mt B) (ms + 1)) (takeN (mkB3 mf mt B) (ms + 1))).1 = mkL mf mt ms B := by unfold mkL; rw [hW, hF]
    have eB : (logSt ws folk (takeB (mkB3 mf mt B) (ms + 1)) (takeN (mkB3 mf mt B) (ms + 1))).2 = mkB mf mt ms B := by unfold mkB; rw [hW, hF]
    rw [eL] at h1
    rw [eB] at h2
    subst h1 h2
    exact exs_fz (i := 5) rfl (exs_one (ex_ret (ev_tup (evs_cons (by walk_at "nm") (evs_cons (by walk_at "nm") (evs_cons (ev_tuple bl (by walk_at "nm") rfl) (evs_cons (by walk_at "nm") evs_nil))))) ⟨rfl, rfl⟩))
/-! ### sums -/
theorem sum_add {α : Type} (f g : α → Int) : ∀ xs : List α, (xs.map fun a => f a + g a).sum = (xs.map f).sum + (xs.map g).sum
  | [] => rfl
  | x :: xs => by
    simp only [List.map_cons, List.sum_cons]
    rw [sum_add f g xs]
    omega
theorem sum_sub {α : Type} (f g : α → Int) : ∀ xs : List α, (xs.map fun a => f a - g a).sum = (xs.map f).sum - (xs.map g).sum
  | [] => rfl
  | x :: xs => by
    simp only [List.map_cons, List.sum_cons]
    rw [sum_sub f g xs]
    omega
theorem sum_congr {α : Type} {f g : α → Int} : ∀ {xs : List α}, (∀ a ∈ xs, f a = g a) → (xs.map f).sum = (xs.map g).sum := fun {xs} h => by
  rw [List.map_congr_left h]
theorem sum_le {α : Type} {f g : α → Int} : ∀ {xs : List α}, (∀ a ∈ xs, f a ≤ g a) → (xs.map f).sum ≤ (xs.map g).sum
  | [], _ => Int.le_refl _
  | x :: xs, h => by
    simp only [List.map_cons, List.sum_cons]
    have := sum_le (xs := xs) fun a ha => h a (List.mem_cons_of_mem _ ha)
    have := h x List.mem_cons_self
    omega
theorem sum_zero {α : Type} {f : α → Int} : ∀ {xs : List α}, (∀ a ∈ xs, f a = 0) → (xs.map f).sum = 0
  | [], _ => rfl
  | x :: xs, h => by
    simp only [List.map_cons, List.sum_cons]
    rw [h x List.mem_cons_self, sum_zero fun a ha => h a (List.mem_cons_of_mem _ ha)]
    rfl
theorem sum_swap {α β : Type} (F : α → β → Int) : ∀ (xs : List α) (ys : List β), (xs.map fun a => (ys.map fun b => F a b).sum).sum = (ys.map fun b => (xs.map fun a => F a b).sum).sum
  | [], ys => (sum_zero (f := fun _ : β => (0 : Int)) fun _ _ => rfl).symm
  | x :: xs, ys => by
    simp only [List.map_cons, List.sum_cons]
    rw [sum_swap F xs ys, ← sum_add]
theorem sum_one {α : Type} [DecidableEq α] {f : α → Int} {h : α} : ∀ {xs : List α}, xs.Nodup → (∀ a ∈ xs, a ≠ h → f a = 0) → (xs.map f).sum = if h ∈ xs then f h else 0
  | [], _, _ => by simp
  | x :: xs, nd, hz => by
    have nd' := List.nodup_cons.mp nd
    simp only [List.map_cons, List.sum_cons]
    by_cases hx : x = h
    · subst hx
      rw [if_pos List.mem_cons_self, sum_zero fun a ha => hz a (List.mem_cons_of_mem _ ha) fun e => nd'.1 (e ▸ ha)]
      omega
    · rw [hz x List.mem_cons_self hx, sum_one nd'.2 fun a ha => hz a (List.mem_cons_of_mem _ ha)]
      have : (h ∈ x :: xs) ↔ h ∈ xs := by simp [Ne.symm hx]
      by_cases hm : h ∈ xs
      · rw [if_pos hm, if_pos (this.mpr hm)]; omega
      · rw [if_neg hm, if_neg fun z => hm (this.mp z)]; omega
theorem sum_sub_nodup {f : Nat → Int} {xs : List Nat} (ndx : xs.Nodup) : ∀ {g : List Nat}, g.Nodup → (∀ a ∈ g, a ∈ xs) → (g.map f).sum = (xs.map fun w => if w ∈ g then f w else 0).sum
  | [], _, _ => (sum_zero fun a _ => by simp).symm
  | a :: g, nd, hs => by
    have nd' := List.nodup_cons.mp nd
    simp only [List.map_cons, List.sum_cons]
    rw [sum_sub_nodup ndx nd'.2 fun b hb => hs b (List.mem_cons_of_mem _ hb)]
    have h1 : (xs.map fun w => if w = a then f w else 0).sum = f a := by
      rw [sum_one (h := a) ndx fun b _ hb => if_neg hb, if_pos (hs a List.mem_cons_self), if_pos rfl]
    rw [← h1, ← sum_add]
    refine sum_congr fun w _ => ?_
    by_cases e : w = a
    · subst e
      simp [nd'.1]
    · simp [e]
/-! ### what a log says of the worths -/
theorem hi_eq {folk : Nat} {top : Int} {l : List Sale} {w : Nat} (h : w < folk) : hiOf (boundsOf folk top l) w = lostAt top l w ∧ loOf (boundsOf folk top l) w = wonAt l w := by
  unfold hiOf loOf boundsOf
  rw [List.getD_eq_getElem?_getD, List.getElem?_map, List.getElem?_range h]
  exact ⟨rfl, rfl⟩
theorem maxO_spec {ns : List Int} {d : Int} : (ns = [] ∧ maxO ns d = d) ∨ (maxO ns d ∈ ns ∧ ∀ y ∈ ns, y ≤ maxO ns d) := by
  unfold maxO
  by_cases h : ns = []
  · exact .inl ⟨h, if_pos h⟩
  · rw [if_neg h]
    exact .inr (maxL_spec h)
theorem minO_spec {ns : List Int} {d : Int} : (ns = [] ∧ minO ns d = d) ∨ (minO ns d ∈ ns ∧ ∀ y ∈ ns, minO ns d ≤ y) := by
  unfold minO
  by_cases h : ns = []
  · exact .inl ⟨h, if_pos h⟩
  · rw [if_neg h]
    exact .inr (minL_spec h)
theorem won_ge {l : List Sale} {s : Sale} (h : s ∈ l) : s.price ≤ wonAt l s.win := by
  have hm : s.price ∈ (l.filter fun t => decide (t.win = s.win)).map Sale.price := List.mem_map.mpr ⟨s, List.mem_filter.mpr ⟨h, by simp⟩, rfl⟩
  rcases maxO_spec (ns := (l.filter fun t => decide (t.win = s.win)).map Sale.price) (d := 1) with ⟨z, _⟩ | ⟨_, h2⟩
  · rw [z] at hm; cases hm
  · exact h2 _ hm
theorem lost_le {l : List Sale} {s : Sale} {top : Int} {w : Nat} (h : s ∈ l) (hw : w ∈ s.others) : lostAt top l w ≤ s.price := by
  have hm : s.price ∈ (l.filter fun t => decide (w ∈ t.others)).map Sale.price := List.mem_map.mpr ⟨s, List.mem_filter.mpr ⟨h, by simp [hw]⟩, rfl⟩
  rcases minO_spec (ns := (l.filter fun t : Sale => decide (w ∈ t.others)).map Sale.price) (d := top) with ⟨z, _⟩ | ⟨_, h2⟩
  · rw [z] at hm; cases hm
  · exact h2 _ hm
theorem won_le {l : List Sale} {w : Nat} {x : Int} (h1 : 1 ≤ x) (h : ∀ s ∈ l, s.win = w → s.price ≤ x) : wonAt l w ≤ x := by
  rcases maxO_spec (ns := (l.filter fun t => decide (t.win = w)).map Sale.price) (d := 1) with ⟨_, z⟩ | ⟨z, _⟩
  · unfold wonAt; rw [z]; exact h1
  · obtain ⟨s, hs, e⟩ := List.mem_map.mp z
    unfold wonAt
    rw [← e]
    exact h s (List.mem_filter.mp hs).1 (by simpa using (List.mem_filter.mp hs).2)
theorem lost_ge {l : List Sale} {w : Nat} {x top : Int} (h1 : x ≤ top) (h : ∀ s ∈ l, w ∈ s.others → x ≤ s.price) : x ≤ lostAt top l w := by
  rcases minO_spec (ns := (l.filter fun t : Sale => decide (w ∈ t.others)).map Sale.price) (d := top) with ⟨_, z⟩ | ⟨z, _⟩
  · unfold lostAt; rw [z]; exact h1
  · obtain ⟨s, hs, e⟩ := List.mem_map.mp z
    unfold lostAt
    rw [← e]
    exact h s (List.mem_filter.mp hs).1 (by simpa using (List.mem_filter.mp hs).2)
/-- worths that fit -/
structure Worths (folk : Nat) (top : Int) (l : List Sale) (ws : List Int) : Prop where
  ok : LogOk folk top l
  len : ws.length = folk
  bd : ∀ x ∈ ws, 1 ≤ x ∧ x ≤ top
  fit : ∀ s ∈ l, SaleFit ws s
section
variable {folk : Nat} {top : Int} {l : List Sale} {ws : List Int}
theorem Worths.at (h : Worths folk top l ws) {w : Nat} (hw : w < folk) : 1 ≤ wAt ws w ∧ wAt ws w ≤ top := h.bd _ (wAt_mem (by rw [h.len]; exact hw))
theorem Worths.won (h : Worths folk top l ws) {w : Nat} (hw : w < folk) : wonAt l w ≤ wAt ws w := won_le (h.at hw).1 fun s hs e => by
  have := (h.fit s hs).wn
  rw [e] at this
  exact this
theorem SaleFit.le {s : Sale} (h : SaleFit ws s) {w : Nat} (hw : w ∈ s.others) : wAt ws w ≤ s.price := by
  have hne : s.others.map (wAt ws) ≠ [] := fun z => by rw [List.map_eq_nil_iff.mp z] at hw; cases hw
  have := (maxL_spec hne).2 (wAt ws w) (List.mem_map.mpr ⟨w, hw, rfl⟩)
  rw [h.mx] at this
  exact this
theorem Worths.lost (h : Worths folk top l ws) {w : Nat} (hw : w < folk) : wAt ws w ≤ lostAt top l w := lost_ge (h.at hw).2 fun s hs e => (h.fit s hs).le e
theorem Worths.lohi (h : Worths folk top l ws) {w : Nat} (hw : w < folk) : wonAt l w ≤ lostAt top l w := Int.le_trans (h.won hw) (h.lost hw)
theorem setter_mem {s : Sale} (ok : LogOk folk top l) (hs : s ∈ l) {w : Nat} : w ∈ settersOf s (boundsOf folk top l) ↔ w ∈ s.others ∧ lostAt top l w = s.price := by
  unfold settersOf
  rw [List.mem_filter]
  constructor
  · rintro ⟨h1, h2⟩
    rw [(hi_eq ((ok.ok s hs).lt w h1)).1] at h2
    exact ⟨h1, by simpa using h2⟩
  · rintro ⟨h1, h2⟩
    refine ⟨h1, ?_⟩
    rw [(hi_eq ((ok.ok s hs).lt w h1)).1]
    simpa using h2
theorem Worths.setter (h : Worths folk top l ws) {s : Sale} (hs : s ∈ l) : ∃ w, w ∈ settersOf s (boundsOf folk top l) := by
  have hne : s.others.map (wAt ws) ≠ [] := fun z => (h.ok.ok s hs).ne (List.map_eq_nil_iff.mp z)
  obtain ⟨w, hw, e⟩ := List.mem_map.mp (maxL_spec hne).1
  rw [(h.fit s hs).mx] at e
  refine ⟨w, (setter_mem h.ok hs).mpr ⟨hw, ?_⟩⟩
  have h1 := h.lost ((h.ok.ok s hs).lt w hw)
  have h2 := lost_le (top := top) hs hw
  omega
theorem Worths.can (h : Worths folk top l ws) : canBe folk top l = true := by
  unfold canBe
  rw [Bool.and_eq_true]
  refine ⟨all_true fun b hb => ?_, all_true fun s hs => ?_⟩
  · unfold boundsOf at hb
    obtain ⟨w, hw, rfl⟩ := List.mem_map.mp hb
    exact decide_eq_true (h.lohi (List.mem_range.mp hw))
  · obtain ⟨w, hw⟩ := h.setter hs
    simp only [Bool.not_eq_true', decide_eq_false_iff_not]
    intro z
    rw [z] at hw
    cases hw
end
theorem Ts.to {g : G} {ρ : Rho} {B B1 : Bag} {e : Expr} {k k' : Bool} (h : Ts g e ρ B k B1) (z : k = k') : Ts g e ρ B k' B1 := z ▸ h
/-! ### logs bent, all worths of few -/
structure IdxOk (n : Nat) (s : Sale) : Prop where
  win : s.win < n
  ot : ∀ w ∈ s.others, w < n
  ne : s.others ≠ []
  le : s.others.length ≤ 1000
theorem SaleOk.idx {folk : Nat} {top : Int} {s : Sale} (h : SaleOk folk top s) (h8 : folk ≤ 8) : IdxOk folk s := ⟨h.win, h.lt, h.ne, by have := h.len; omega⟩
def fit1 (ws : List Int) (s : Sale) : Bool := !(!decide (maxL (s.others.map (wAt ws)) = s.price) || decide (wAt ws s.win < s.price))
def fitB (l : List Sale) (ws : List Int) : Bool := l.all (fit1 ws)
theorem fit1_iff {ws : List Int} {s : Sale} : fit1 ws s = true ↔ SaleFit ws s := by
  unfold fit1
  constructor
  · intro h
    simp at h
    exact ⟨h.1, h.2⟩
  · intro h
    have h1 := h.mx
    have h2 := h.wn
    simp [h1]
    exact h2
theorem fitB_iff {ws : List Int} {l : List Sale} : fitB l ws = true ↔ ∀ s ∈ l, SaleFit ws s := by
  unfold fitB
  rw [List.all_eq_true]
  exact forall_congr' fun s => forall_congr' fun _ => fit1_iff
def wsD (ws : List Int) : D := .tup (ws.map .int)
abbrev s__law_fit : Stmt := topS 45
abbrev n__law_fit : List Str := ["log1", "worths1", "winner", "price", "others", "who"]
theorem sc__law_fit : FnScope n__law_fit ["log1", "worths1"] (defScope s__law_fit) := ⟨rfl, rfl, rfl, by decide +kernel, rfl, by decide +kernel, by decide +kernel⟩
def C__law_fit : Con := fun ds B r B' => ∃ (l : List Sale) (ws : List Int), (∀ s ∈ l, IdxOk ws.length s) ∧ ds = [logD l, wsD ws] ∧ r = .d (.bl (fitB l ws)) ∧ B' = B
theorem has__law_fit {T : Top} {f : Addr} {fd : FuncData} (bl : Bl T) (F : Fun T.K "_law_fit" "_law_fit" s__law_fit f fd) (hm : T.mg "_law_fit" = some (.ref f)) : HasFn T 1 "_law_fit" C__law_fit := by
  refine fn_ok F sc__law_fit hm (F.binds fun _ _ _ _ _ _ us hl => match us, hl with | [_, _], _ => rfl) (fun ds B r B' ⟨_, _, _, h, _⟩ => by rw [h]; rfl) fun ds B r B' ⟨l, ws, ok, h1, h2, h3⟩ => ?_
  subst h1 h2 h3
  let ρ1 : Rho := [.d (logD l), .d (wsD ws), .u, .u, .u, .u]
  refine exs_cons (ex_for (B1 := B') (ds := l.map Sale.d) (it_seq (by walk_at "nm") rfl) (fun i ρ C => (∀ s ∈ l.take i, fit1 ws s = true) ∧ ρ = ρ1 ∧ C = B') ⟨fun s h => (nomatch h), rfl, rfl⟩ (fun i d ρ' C hd ⟨h0, h1, h2⟩ => ?_) fun ρ' C h => ?_)
  · obtain ⟨s, hx, rfl, hm, hi, ht⟩ := map_get hd
    subst h1 h2
    have o := ok s hm
    refine ⟨_, _, tg_tup (tgs_cons (tg_name (i := 2) (by walk_at "st")) (tgs_cons (tg_name (i := 3) (by walk_at "st")) (tgs_cons (tg_name (i := 4) (by walk_at "st")) tgs_nil))), exs_cons (ex_if (k := !decide (maxL (s.others.map (wAt ws)) = s.price) || decide (wAt ws s.win < s.price)) (B1 := C) (Tw.ts (tw_orP ?a fun _ => tw_or1 ?b)) (fun hk => ?_) fun hk => ?_)⟩
    · exact ts_cmp c_neI (ev_max bl (ev_lcE (own := [("who", 5)]) nD .int (wAt ws) s.others (it_seq (by walk_at "nm") rfl) (by walk_at "blk") rfl (Nat.le_trans o.le (by omega)) fun v hv => lcp0 (tg_name (i := 5) (by walk_at "st")) (ev_ixN (by walk_at "nm") (by walk_at "nm") rfl (wAt_get (o.ot v hv)))) (fun z => o.ne (List.map_eq_nil_iff.mp z))) (by walk_at "nm")
    · exact ts_cmp c_lt (ev_ixN (by walk_at "nm") (by walk_at "nm") rfl (wAt_get o.win)) (by walk_at "nm")
    · refine exs_one (ex_ret ev_bl ⟨?_, rfl⟩)
      have e : fitB l ws = false := by
        unfold fitB
        rw [List.all_eq_false]
        exact ⟨s, hm, by unfold fit1; rw [hk]; simp⟩
      rw [e]
    · refine exs_nil (exs_fgt (is := [2, 3, 4]) (exs_nil ⟨fun t h => ?_, rfl, rfl⟩))
      rw [ht] at h
      rcases List.mem_append.mp h with h | h
      · exact h0 t h
      · rw [List.mem_singleton.mp h]
        unfold fit1
        rw [hk]
        rfl
  · obtain ⟨h0, h1, h2⟩ := h
    subst h1 h2
    rw [List.length_map, List.take_length] at h0
    have e : fitB l ws = true := by
      unfold fitB
      rw [List.all_eq_true]
      exact h0
    rw [e]
    exact exs_one (ex_ret ev_bl ⟨rfl, rfl⟩)
/-! the worths of few -/
def rng (top : Nat) : List Int := (List.range top).map fun i : Nat => 1 + (i : Int)
def everyL (top : Nat) : Nat → List (List Int)
  | 0 => [[]]
  | n + 1 => (everyL top n).flatMap fun one => (rng top).map fun x => one ++ [x]
theorem rng_mem {top : Nat} {x : Int} : x ∈ rng top ↔ 1 ≤ x ∧ x ≤ top := by
  unfold rng
  rw [List.mem_map]
  constructor
  · rintro ⟨i, h, rfl⟩
    have := List.mem_range.mp h
    omega
  · rintro ⟨h1, h2⟩
    exact ⟨(x - 1).toNat, List.mem_range.mpr (by omega), by omega⟩
theorem every_mem {top : Nat} : ∀ {n : Nat} {ws : List Int}, ws ∈ everyL top n ↔ ws.length = n ∧ ∀ x ∈ ws, 1 ≤ x ∧ x ≤ top
  | 0, ws => by
    unfold everyL
    rw [List.mem_singleton]
    constructor
    · rintro rfl
      exact ⟨rfl, fun x h => (nomatch h)⟩
    · rintro ⟨h, _⟩
      exact List.length_eq_zero_iff.mp h
  | n + 1, ws => by
    unfold everyL
    rw [List.mem_flatMap]
    constructor
    · rintro ⟨one, h1, h2⟩
      obtain ⟨x, h3, rfl⟩ := List.mem_map.mp h2
      have h4 := every_mem.mp h1
      refine ⟨by rw [List.length_append, h4.1]; rfl, fun y hy => ?_⟩
      rcases List.mem_append.mp hy with hy | hy
      · exact h4.2 y hy
      · rw [List.mem_singleton.mp hy]
        exact rng_mem.mp h3
    · rintro ⟨h1, h2⟩
      have hne : ws ≠ [] := fun z => by rw [z] at h1; cases h1
      refine ⟨ws.dropLast, every_mem.mpr ⟨by rw [List.length_dropLast]; omega, fun x hx => h2 x (List.dropLast_subset _ hx)⟩, List.mem_map.mpr ⟨ws.getLast hne, rng_mem.mpr (h2 _ (List.getLast_mem hne)), List.dropLast_concat_getLast hne⟩⟩
theorem every_len (top : Nat) : ∀ n, (everyL top n).length = top ^ n
  | 0 => rfl
  | n + 1 => by
    unfold everyL
    rw [List.length_flatMap]
    have e : ((everyL top n).map fun one => ((rng top).map fun x => one ++ [x]).length) = (everyL top n).map fun _ => top := List.map_congr_left fun one _ => by rw [List.length_map]; unfold rng; rw [List.length_map, List.length_range]
    rw [e, List.map_const', List.sum_replicate_nat, every_len top n, Nat.pow_succ]
theorem pow625 {top n : Nat} (ht : top ≤ 5) (hn : n ≤ 4) : top ^ n ≤ 625 := Nat.le_trans (Nat.pow_le_pow_left ht n) (Nat.pow_le_pow_right (n := 5) (by omega) hn)
theorem rgD_rng (top : Nat) : rgD 1 (((top : Int) + 1) - 1).toNat = (rng top).map .int := by
  unfold rgD rng
  rw [List.map_map, show (((top : Int) + 1) - 1).toNat = top by omega]
  rfl
theorem ss_two {g : G} {a b : Expr} {n n2 : Str} {px py pt pt2 : Pos} {kt k2 : Nat} (hk : g.sc.kind = .function) (l1 : g.sc.names.lookup n = some .local) (l2 : g.sc.names.lookup n2 = some .local) (hl : (py.line == px.line) = true) (hd : ([n, n2] : List Str).eraseDups.length = 2) (hs : ([a, b].any fun | .Starred .. => true | _ => false) = false) (hf : [a, b].all (foldedForSure 8) = false) (hc : [a, b].all (constantsAlone 8) = false) :
    ∀ env : Env, env.scope = g.sc → swappedStores [.Tuple [.Name n px, .Name n2 py] kt pt] (.Tuple [a, b] k2 pt2) env = pure (some [n, n2]) := by
  intro env he
  have k1 : (env.kindOf n == some NameKind.local) = true := by rw [show env.kindOf n = some .local by show env.scope.names.lookup n = _; rw [he]; exact l1]; rfl
  have k2 : (env.kindOf n2 == some NameKind.local) = true := by rw [show env.kindOf n2 = some .local by show env.scope.names.lookup n2 = _; rw [he]; exact l2]; rfl
  have hb : env.blockKind = .function := by unfold Env.blockKind; rw [he, hk]; rfl
  have hxx : (px.line == px.line) = true := by simp
  unfold swappedStores
  simp only [List.filterMap_cons, List.filterMap_nil, k1, k2, List.head?_cons, Option.map_some, Option.getD_some, Expr.pos, hl, hxx, Bool.and_self, if_true, hb]
  rw [if_neg (by simp)]
  refine Eq.trans (if_neg fun z => absurd (hs.symm.trans z) Bool.false_ne_true) ?_
  rw [if_neg (by rw [hd]; simp), if_neg (by rw [hf]; exact Bool.false_ne_true), if_neg (by rw [hc]; exact Bool.false_ne_true)]
def saleP (s : Sale) : PyData := .tuple [.int (s.win : Nat), .int s.price, .tuple ((s.others.map fun n : Nat => (n : Int)).map .int)]
theorem saleP_py (s : Sale) : (s.d).py = some (saleP s) := by
  unfold Sale.d D.py D.pys D.pys D.pys D.pys
  rw [py_tup]
  unfold nD D.py
  rfl
theorem saleP_pys : ∀ l : List Sale, D.pys (l.map Sale.d) = some (l.map saleP)
  | [] => by unfold D.pys; rfl
  | s :: l => by
    rw [List.map_cons, List.map_cons]
    unfold D.pys
    rw [saleP_pys l, saleP_py]
theorem saleP_can : ∀ l : List Sale, PyData.canLayAll0 (l.map saleP) = true
  | [] => by simp [PyData.canLayAll0]
  | s :: l => by
    rw [List.map_cons]
    unfold PyData.canLayAll0
    rw [saleP_can l]
    simp only [saleP, PyData.canLay0, PyData.canLayAll0, canInts]
    rfl
theorem saleP_depth : ∀ l : List Sale, PyData.depthAll (l.map saleP) ≤ 5
  | [] => by simp [PyData.depthAll]
  | s :: l => by
    have h := depthInts (s.others.map fun n : Nat => (n : Int))
    have h2 := saleP_depth l
    rw [List.map_cons]
    unfold PyData.depthAll
    refine Nat.max_le.mpr ⟨?_, h2⟩
    simp only [saleP, PyData.depth, PyData.depthAll]
    omega
theorem log_py (l : List Sale) : (logD l).py = some (.tuple (l.map saleP)) := by
  unfold logD D.py
  rw [saleP_pys]
  rfl
theorem log_shaped (l : List Sale) : SeqAt.shaped (.tuple (l.map saleP)) = true := by
  have h := saleP_depth l
  unfold SeqAt.shaped PyData.canLay0 PyData.depth
  rw [saleP_can]
  simp
  omega
theorem c_eqLog0 {g : G} {l : List Sale} : BinD g (compareOp .Eq) (logD l) (.tup []) (.d (.bl (decide (l = [])))) := by
  have h := c_eqD (g := g) (log_py l) (py_tup []) (log_shaped l) (shaped_tup [])
  have e : PyData.eqv (.tuple (l.map saleP)) (.tuple (([].map fun n : Nat => (n : Int)).map .int)) = decide (l = []) := by
    unfold PyData.eqv
    cases l with
    | nil => simp [PyData.eqvAll]
    | cons s l => simp [PyData.eqvAll]
  rw [e] at h
  exact h
def swapS (s : Sale) (one : Nat) : Sale := ⟨one, s.price, sortN (s.others.filter (fun w => !decide (w = one)) ++ [s.win])⟩
def bentS (top : Nat) (s : Sale) (B : Bag) : Sale := if takeN B 2 = 0 then ⟨s.win, ((1 + takeN (takeB B 2) top : Nat) : Int), s.others⟩ else swapS s (s.others.getD (takeN (takeB B 2) s.others.length) 0)
def bentSB (top : Nat) (s : Sale) (B : Bag) : Bag := if takeN B 2 = 0 then takeB (takeB B 2) top else takeB (takeB B 2) s.others.length
def bentL (top : Nat) (l : List Sale) (B : Bag) : List Sale := match l[takeN B l.length]? with
  | none => l
  | some s => l.take (takeN B l.length) ++ [bentS top s (takeB B l.length)] ++ l.drop (takeN B l.length + 1)
def bentB (top : Nat) (l : List Sale) (B : Bag) : Bag := match l[takeN B l.length]? with
  | none => B
  | some s => bentSB top s (takeB B l.length)
theorem swap_ok {folk : Nat} {top : Int} {s : Sale} {one : Nat} (h : SaleOk folk top s) (ho : one ∈ s.others) : SaleOk folk top (swapS s one) := by
  have hmem : ∀ w, w ∈ (swapS s one).others ↔ (w ∈ s.others ∧ w ≠ one) ∨ w = s.win := fun w => by
    show w ∈ sortN _ ↔ _
    rw [(sortN_perm _).mem_iff, List.mem_append, List.mem_filter, List.mem_singleton]
    simp
  have hnd : (s.others.filter (fun w => !decide (w = one)) ++ [s.win]).Nodup := by
    refine List.nodup_append.mpr ⟨(h.up.imp fun h => Nat.ne_of_lt h).filter _, List.nodup_cons.mpr ⟨by simp, List.nodup_nil⟩, fun a ha b hb e => ?_⟩
    rw [List.mem_singleton.mp hb] at e
    exact h.nw (e ▸ (List.mem_filter.mp ha).1)
  refine ⟨h.lt one ho, h.p1, h.pt, fun z => ?_, fun w hw => ?_, strict_of (sortN_pair _) ((sortN_perm _).nodup_iff.mpr hnd), fun z => ?_⟩
  · have := (hmem s.win).mpr (.inr rfl)
    rw [z] at this
    cases this
  · rcases (hmem w).mp hw with ⟨h1, _⟩ | h1
    · exact h.lt w h1
    · rw [h1]; exact h.win
  · rcases (hmem one).mp z with ⟨_, h1⟩ | h1
    · exact h1 rfl
    · exact h.nw (h1 ▸ ho)
theorem bentS_ok {folk top : Nat} {s : Sale} {B : Bag} (ht : 1 ≤ top) (h : SaleOk folk (top : Nat) s) : SaleOk folk (top : Nat) (bentS top s B) := by
  unfold bentS
  split
  · have := takeN_lt (B := takeB B 2) (many := top) (by omega)
    exact ⟨h.win, by show (1 : Int) ≤ ((1 + takeN (takeB B 2) top : Nat) : Int); omega, by show ((1 + takeN (takeB B 2) top : Nat) : Int) ≤ top; omega, h.ne, h.lt, h.up, h.nw⟩
  · have hp : 0 < s.others.length := List.length_pos_iff.mpr h.ne
    have hk := takeN_lt (B := takeB B 2) hp
    refine swap_ok h ?_
    rw [List.getD_eq_getElem?_getD, List.getElem?_eq_getElem hk]
    exact List.getElem_mem hk
theorem bentL_ok {folk top : Nat} {l : List Sale} {B : Bag} (h : LogOk folk (top : Nat) l) : LogOk folk (top : Nat) (bentL top l B) := by
  unfold bentL
  split
  · exact h
  · rename_i s hs
    have hlt := (List.getElem?_eq_some_iff.mp hs).1
    refine ⟨h.f2, h.f8, h.t1, h.tt, ?_, fun t ht => ?_⟩
    · have := h.n8
      simp
      omega
    · simp only [List.append_assoc, List.mem_append, List.mem_singleton] at ht
      rcases ht with ht | ht | ht
      · exact h.ok t ((List.take_subset _ _) ht)
      · rw [ht]
        exact bentS_ok (by have := h.t1; omega) (h.ok s (List.mem_of_getElem? hs))
      · exact h.ok t ((List.drop_subset _ _) ht)
theorem bentB_ok {top : Nat} {l : List Sale} {B : Bag} {m : Int} (h : BagN m B) : BagN (m + 3) (bentB top l B) := by
  unfold bentB
  split
  · exact h.mono (by omega)
  · unfold bentSB
    split
    · exact (takeB_ok (takeB_ok (takeB_ok h))).mono (by omega)
    · exact (takeB_ok (takeB_ok (takeB_ok h))).mono (by omega)
theorem cutD_to (xs : List D) (k : Nat) : cutD xs none (some (k : Int)) = xs.take k := by
  unfold cutD
  rw [HT.sIx_nat, HT.sIx_none, List.drop_zero, Nat.sub_zero, List.take_eq_take_iff]
  omega
theorem cutD_from (xs : List D) (k : Nat) : cutD xs (some (k : Int)) none = xs.drop k := by
  unfold cutD
  rw [HT.sIx_nat, HT.sIx_none]
  rw [List.take_of_length_le (by rw [List.length_drop]; exact Nat.le_refl _)]
  by_cases h : k ≤ xs.length
  · rw [Nat.min_eq_left h]
  · rw [Nat.min_eq_right (by omega), List.drop_length, List.drop_of_length_le (by omega)]
abbrev s__law_bent : Stmt := topS 44
abbrev n__law_bent : List Str := ["bag", "folk1", "top1", "log1", "at", "winner", "price", "others", "one", "who"]
theorem sc__law_bent : FnScope n__law_bent ["bag", "folk1", "top1", "log1"] (defScope s__law_bent) := ⟨rfl, rfl, rfl, by decide +kernel, rfl, by decide +kernel, by decide +kernel⟩
def C__law_bent : Con := fun ds B r B' => ∃ (folk top : Nat) (l : List Sale), LogOk folk (top : Nat) l ∧ BagN 800000000000 B ∧ ds = [.bag, nD folk, nD top, logD l] ∧ r = .d (logD (bentL top l B)) ∧ B' = bentB top l B
theorem has__law_bent {T : Top} {f : Addr} {fd : FuncData} (bl : Bl T) (H : HasFn T 1 "_law_take" C__law_take) (F : Fun T.K "_law_bent" "_law_bent" s__law_bent f fd) (hm : T.mg "_law_bent" = some (.ref f)) : HasFn T 2 "_law_bent" C__law_bent := by
  refine fn_ok F sc__law_bent hm (F.binds fun _ _ _ _ _ _ us hl => match us, hl with | [_, _, _, _], _ => rfl) (fun ds B r B' ⟨_, _, _, _, _, h, _⟩ => by rw [h]; rfl) fun ds B r B' ⟨folk, top, l, ok, hB, h1, h2, h3⟩ => ?_
  subst h1 h2 h3
  have n8 := ok.n8
  have f8 := ok.f8
  have t1 := ok.t1
  have tt := ok.tt
  refine exs_cons (ex_if (k := decide (l = [])) (B1 := B) (ts_cmp c_eqLog0 (by walk_at "nm") (ev_tup evs_nil)) (fun hk => ?_) fun hk => exs_nil ?_)
  · have hk' : l = [] := by simpa using hk
    subst hk'
    exact exs_one (ex_ret (by walk_at "nm") ⟨rfl, rfl⟩)
  · have hk' : l ≠ [] := by simpa using hk
    have hp : 0 < l.length := List.length_pos_iff.mpr hk'
    have hlt := takeN_lt (B := B) hp
    have hget : l[takeN B l.length]? = some l[takeN B l.length] := List.getElem?_eq_getElem hlt
    have hmem : l[takeN B l.length] ∈ l := List.getElem_mem hlt
    have eL : bentL top l B = l.take (takeN B l.length) ++ [bentS top l[takeN B l.length] (takeB B l.length)] ++ l.drop (takeN B l.length + 1) := by unfold bentL; rw [hget]
    have eB : bentB top l B = bentSB top l[takeN B l.length] (takeB B l.length) := by unfold bentB; rw [hget]
    have hB1 := takeB_ok (many := l.length) hB
    have hB2 := takeB_ok (many := 2) hB1
    rw [eL, eB]
    generalize hat : takeN B l.length = at' at *
    generalize hs : l[at'] = s at *
    have so := ok.ok s hmem
    refine exs_cons (ex_set (i := 4) (x := nD at') (B1 := takeB B l.length) (by walk_at "st") (by rw [← hat]; exact ev_call H (by show 1 ≤ 1; omega) rfl (evs_cons (by walk_at "nm") (evs_cons (EvR.to (y := nD l.length) (ev_len bl (x := logD l) (by walk_at "nm") rfl) (by rw [List.length_map])) evs_nil)) ⟨l.length, hp, by omega, hB.mono (by omega), rfl, rfl, rfl⟩) ?_ (fun _ _ => rfl))
    refine exs_cons (ex_asg (x := s.d) (B1 := takeB B l.length) (ev_ixN (i := at') (x := logD l) (by walk_at "nm") (by walk_at "nm") rfl (by rw [List.getElem?_map, hget]; rfl)) (tg_tup (tgs_cons (tg_name (i := 5) (by walk_at "st")) (tgs_cons (tg_name (i := 6) (by walk_at "st")) (tgs_cons (tg_name (i := 7) (by walk_at "st")) tgs_nil)))) ?_)
    generalize takeB B l.length = B2 at *
    let ρ1 (s : Sale) : Rho := [.d .bag, .d (nD folk), .d (nD top), .d (logD l), .d (nD at'), .d (nD s.win), .d (.int s.price), .d (.tup (s.others.map nD)), .u, .u]
    have fin : ∀ (t : Sale) (C : Bag), t = bentS top s B2 → C = bentSB top s B2 → Exs (fnG T n__law_bent s__law_bent 1) ((defBody s__law_bent).drop 4) (ρ1 t) C (retE (.d (logD (l.take at' ++ [bentS top s B2] ++ l.drop (at' + 1)))) (bentSB top s B2)) := fun t C ht hC => by
      rw [← ht, ← hC]
      have e : logD (l.take at' ++ [t] ++ l.drop (at' + 1)) = .tup ((l.map Sale.d).take at' ++ [t.d] ++ (l.map Sale.d).drop (at' + 1)) := by
        unfold logD
        rw [List.map_append, List.map_append, List.map_take, List.map_drop]
        rfl
      rw [e, ← cutD_to, ← cutD_from]
      refine exs_one (ex_ret (ev_catT (ev_catT (ev_slT (by walk_at "nm") po_no (po_so (by walk_at "nm"))) (ev_tup (evs_cons (ev_tup (evs_cons (by walk_at "nm") (evs_cons (by walk_at "nm") (evs_cons (by walk_at "nm") evs_nil)))) evs_nil)) ?_) (ev_slT (by walk_at "nm") (po_so (EvR.to (y := .int ((at' + 1 : Nat) : Int)) (ev_bin b_add (by walk_at "nm") ev_int) rfl)) po_no) ?_) ⟨rfl, rfl⟩)
      · rw [cutD_to, List.length_take, List.length_map]
        simp
        omega
      · rw [cutD_to, cutD_from, List.length_append, List.length_take, List.length_drop, List.length_map]
        simp
        omega
    refine exs_cons (ex_if (k := decide (takeN B2 2 = 0)) (B1 := takeB B2 2) (ts_cmp (c_eqN (j := 0)) (ev_call H (by show 1 ≤ 1; omega) rfl (evs_cons (by walk_at "nm") (evs_cons ev_int evs_nil)) ⟨2, by omega, by omega, hB1.mono (by omega), rfl, rfl, rfl⟩) ev_int) (fun hk2 => ?_) fun hk2 => ?_)
    · have hk2' : takeN B2 2 = 0 := by simpa using hk2
      refine exs_one (ex_set (i := 6) (x := .int ((1 + takeN (takeB B2 2) top : Nat) : Int)) (B1 := takeB (takeB B2 2) top) (by walk_at "st") (EvR.to (ev_bin b_add ev_int (ev_call H (by show 1 ≤ 1; omega) rfl (evs_cons (by walk_at "nm") (evs_cons (by walk_at "nm") evs_nil)) ⟨top, by omega, by omega, hB2.mono (by omega), rfl, rfl, rfl⟩)) (congrArg D.int (by omega))) (fin ⟨s.win, ((1 + takeN (takeB B2 2) top : Nat) : Int), s.others⟩ _ (by unfold bentS; rw [if_pos hk2']) (by unfold bentSB; rw [if_pos hk2'])) (fun _ _ => rfl))
    · have hk2' : ¬ takeN B2 2 = 0 := by simpa using hk2
      have hop : 0 < s.others.length := List.length_pos_iff.mpr so.ne
      have hol := so.len
      have hko := takeN_lt (B := takeB B2 2) hop
      have hgo : s.others[takeN (takeB B2 2) s.others.length]? = some (s.others.getD (takeN (takeB B2 2) s.others.length) 0) := by
        rw [List.getD_eq_getElem?_getD, List.getElem?_eq_getElem hko]
        rfl
      have eS : bentS top s B2 = swapS s (s.others.getD (takeN (takeB B2 2) s.others.length) 0) := by unfold bentS; rw [if_neg hk2']
      have eSB : bentSB top s B2 = takeB (takeB B2 2) s.others.length := by unfold bentSB; rw [if_neg hk2']
      generalize ho : s.others.getD (takeN (takeB B2 2) s.others.length) 0 = one at *
      refine exs_cons (ex_set (i := 8) (x := nD one) (B1 := takeB (takeB B2 2) s.others.length) (by walk_at "st") (ev_ixN (i := takeN (takeB B2 2) s.others.length) (x := .tup (s.others.map nD)) (by walk_at "nm") (ev_call H (by show 1 ≤ 1; omega) rfl (evs_cons (by walk_at "nm") (evs_cons (EvR.to (y := nD s.others.length) (ev_len bl (x := .tup (s.others.map nD)) (by walk_at "nm") rfl) (by rw [List.length_map])) evs_nil)) ⟨s.others.length, hop, by omega, hB2.mono (by omega), rfl, rfl, rfl⟩) rfl (by rw [List.getElem?_map, hgo]; rfl)) ?_ (fun _ _ => rfl))
      refine exs_one (ex_par (i := 5) (j := 7) (x := nD one) (y := .tup ((sortN (s.others.filter (fun w => !decide (w = one)) ++ [s.win])).map nD)) (by walk_at "st") (by walk_at "st") (by decide) rfl rfl (evs_cons (by walk_at "nm") (evs_cons (ev_tuple bl (EvR.fz (evr_sorted bl k_sortN (EvR.to (ev_catL (xs := ((s.others.filter (fun w => !decide (w = one))).map id).map nD) (ys := [nD s.win]) (ev_lcF (own := [("who", 9)]) nD nD (fun w => !decide (w = one)) id s.others (it_seq (by walk_at "nm") rfl) (by walk_at "blk") rfl (by omega) fun w hw => lcp1 (tg_name (i := 9) (by walk_at "st")) (ts_cmp c_neN (by walk_at "nm") (by walk_at "nm")) fun _ => (by walk_at "nm")) (ev_lst (evs_cons (by walk_at "nm") evs_nil)) ?len) (by rw [List.map_id, List.map_append]; rfl)))) rfl) evs_nil)) (exs_fgt (is := [8]) (fin (swapS s one) _ eS.symm eSB.symm)) (ss_two rfl rfl rfl rfl (by decide +kernel) rfl rfl rfl))
      · have := List.length_filter_le (fun w => !decide (w = one)) s.others
        rw [List.length_map, List.length_map]
        simp
        omega
section
variable {folk : Nat} {top : Int} {l : List Sale} {ws : List Int}
/-- from bounds that can be: worths, each between its bounds, a setter of each sale at its greatest, fit -/
theorem canBe_spec (h : canBe folk top l = true) : (∀ w, w < folk → wonAt l w ≤ lostAt top l w) ∧ ∀ s ∈ l, ∃ w, w ∈ settersOf s (boundsOf folk top l) := by
  unfold canBe at h
  rw [Bool.and_eq_true, List.all_eq_true, List.all_eq_true] at h
  refine ⟨fun w hw => ?_, fun s hs => ?_⟩
  · have := h.1 _ (List.mem_map.mpr ⟨(wonAt l w, lostAt top l w), List.mem_map.mpr ⟨w, List.mem_range.mpr hw, rfl⟩, rfl⟩)
    simpa using this
  · have := h.2 _ (List.mem_map.mpr ⟨s, hs, rfl⟩)
    exact List.exists_mem_of_ne_nil _ (by simpa using this)
theorem lost_top {w : Nat} (ok : LogOk folk top l) : lostAt top l w ≤ top := by
  rcases minO_spec (ns := (l.filter fun t : Sale => decide (w ∈ t.others)).map Sale.price) (d := top) with ⟨_, z⟩ | ⟨z, _⟩
  · unfold lostAt; rw [z]; exact Int.le_refl _
  · obtain ⟨s, hs, e⟩ := List.mem_map.mp z
    unfold lostAt
    rw [← e]
    exact (ok.ok s (List.mem_filter.mp hs).1).pt
theorem won_one {w : Nat} (ok : LogOk folk top l) : 1 ≤ wonAt l w := by
  rcases maxO_spec (ns := (l.filter fun t : Sale => decide (t.win = w)).map Sale.price) (d := 1) with ⟨_, z⟩ | ⟨z, _⟩
  · unfold wonAt; rw [z]; exact Int.le_refl _
  · obtain ⟨s, hs, e⟩ := List.mem_map.mp z
    unfold wonAt
    rw [← e]
    exact (ok.ok s (List.mem_filter.mp hs).1).p1
def mkWs (folk : Nat) (f : Nat → Int) : List Int := (List.range folk).map f
theorem mkWs_at {f : Nat → Int} {w : Nat} (h : w < folk) : wAt (mkWs folk f) w = f w := by
  unfold wAt mkWs
  rw [List.getD_eq_getElem?_getD, List.getElem?_map, List.getElem?_range h]
  rfl
theorem worths_mk (ok : LogOk folk top l) (f : Nat → Int) (h : ∀ w, w < folk → wonAt l w ≤ f w ∧ f w ≤ lostAt top l w) (hs : ∀ s ∈ l, ∃ w ∈ s.others, f w = s.price) : Worths folk top l (mkWs folk f) := by
  refine ⟨ok, by unfold mkWs; rw [List.length_map, List.length_range], fun x hx => ?_, fun s hs' => ⟨?_, ?_⟩⟩
  · obtain ⟨w, hw, rfl⟩ := List.mem_map.mp hx
    have := h w (List.mem_range.mp hw)
    have := won_one (w := w) ok
    have := lost_top (w := w) ok
    omega
  · have so := ok.ok s hs'
    refine (maxL_eq ?_ fun y hy => ?_).symm
    · obtain ⟨w, h1, h2⟩ := hs s hs'
      exact List.mem_map.mpr ⟨w, h1, by rw [mkWs_at (so.lt w h1)]; exact h2⟩
    · obtain ⟨w, hw, rfl⟩ := List.mem_map.mp hy
      rw [mkWs_at (so.lt w hw)]
      have := h w (so.lt w hw)
      have := lost_le (top := top) hs' hw
      omega
  · have so := ok.ok s hs'
    rw [mkWs_at so.win]
    have := h s.win so.win
    have := won_ge hs'
    omega
/-- a log can be just where some worths fit -/
theorem canBe_iff (ok : LogOk folk top l) : canBe folk top l = true ↔ ∃ ws, Worths folk top l ws := by
  constructor
  · intro h
    have hc := canBe_spec h
    refine ⟨_, worths_mk ok (lostAt top l) (fun w hw => ⟨hc.1 w hw, Int.le_refl _⟩) fun s hs => ?_⟩
    obtain ⟨w, hw⟩ := hc.2 s hs
    have := (setter_mem ok hs).mp hw
    exact ⟨w, this.1, this.2⟩
  · rintro ⟨ws, h⟩
    exact h.can
end
section
variable {folk top : Nat} {l : List Sale}
theorem every_worths (ok : LogOk folk (top : Nat) l) {ws : List Int} : ws ∈ (everyL top folk).filter (fitB l) ↔ Worths folk (top : Nat) l ws := by
  rw [List.mem_filter, every_mem, fitB_iff]
  constructor
  · rintro ⟨⟨h1, h2⟩, h3⟩
    exact ⟨ok, h1, h2, h3⟩
  · intro h
    exact ⟨⟨h.len, h.bd⟩, h.fit⟩
end
structure FitOk (ws : List Int) (s : Sale) : Prop where
  fit : SaleFit ws s
  win : s.win < ws.length
  ot : ∀ w ∈ s.others, w < ws.length
  ne : s.others ≠ []
  le : s.others.length ≤ 1000
def endsOf (folk : Nat) (top : Int) (l : List Sale) : List (Int × Int) := (List.range folk).map fun w => (maxL (1 :: (l.filter fun s => decide (s.win = w)).map Sale.price), minL (top :: (l.filter fun s => decide (w ∈ s.others)).map Sale.price))
def othR (s : Sale) (bs : List (Int × Int)) (lot : List Nat) : List Nat := s.others.filter fun w => decide (w ∈ lot) && decide (hiOf bs w = s.price)
def allR (l : List Sale) (bs : List (Int × Int)) (lot : List Nat) : Bool := l.all fun s => !decide (othR s bs lot = [])
def oneOf (bs : List (Int × Int)) (lot : List Nat) : List Int := bs.zipIdx.map fun p => if p.2 ∈ lot then p.1.2 else p.1.1
def gainOf (l : List Sale) (one : List Int) : Int := (l.map fun s => wAt one s.win - s.price).sum
def stepF (l : List Sale) (bs : List (Int × Int)) (a : Option Int × Option (List Nat)) (lot : List Nat) : Option Int × Option (List Nat) :=
  if allR l bs lot then (some (match a.1 with | none => gainOf l (oneOf bs lot) | some v => if gainOf l (oneOf bs lot) < v then gainOf l (oneOf bs lot) else v), some (a.2.getD lot)) else a
def fewD : Option Int → D
  | none => .non
  | some v => .int v
def firstD : Option (List Nat) → D
  | none => .non
  | some l => lotD l
structure Math05 (folk : Nat) (top : Int) (l : List Sale) : Prop where
  ends : endsOf folk top l = boundsOf folk top l
  can : canBe folk top l = true
  costs : ∀ p ∈ pricesOf l, costsOf l (boundsOf folk top l) (boughtOf folk l) p ≠ []
  good : goodOf folk l (boundsOf folk top l) ≠ []
  fin : (sortLots (lotsOf (List.range folk))).foldl (stepF l (boundsOf folk top l)) (none, none) = (some (leastOf l (boundsOf folk top l) (boughtOf folk l)), some (firstLot (goodOf folk l (boundsOf folk top l))))
  fit : ∀ lot, allR l (boundsOf folk top l) lot = true → ∀ s ∈ l, FitOk (oneOf (boundsOf folk top l) lot) s
section
variable {folk : Nat} {top : Int} {l : List Sale} {ws : List Int}
theorem maxL_cons {ns : List Int} (h : ∀ n ∈ ns, 1 ≤ n) : maxL (1 :: ns) = maxO ns 1 := by
  refine (maxL_eq ?_ fun y hy => ?_).symm
  · rcases maxO_spec (ns := ns) (d := 1) with ⟨_, z⟩ | ⟨z, _⟩
    · rw [z]; exact List.mem_cons_self
    · exact List.mem_cons_of_mem _ z
  · rcases maxO_spec (ns := ns) (d := 1) with ⟨e, z⟩ | ⟨z1, z2⟩
    · rw [z]; subst e; simp at hy; omega
    · rcases List.mem_cons.mp hy with rfl | hy
      · exact h _ z1
      · exact z2 _ hy
theorem minL_cons {ns : List Int} {top : Int} (h : ∀ n ∈ ns, n ≤ top) : minL (top :: ns) = minO ns top := by
  refine (minL_eq ?_ fun y hy => ?_).symm
  · rcases minO_spec (ns := ns) (d := top) with ⟨_, z⟩ | ⟨z, _⟩
    · rw [z]; exact List.mem_cons_self
    · exact List.mem_cons_of_mem _ z
  · rcases minO_spec (ns := ns) (d := top) with ⟨e, z⟩ | ⟨z1, z2⟩
    · rw [z]; subst e; simp at hy; omega
    · rcases List.mem_cons.mp hy with rfl | hy
      · exact h _ z1
      · exact z2 _ hy
theorem LogOk.ends (ok : LogOk folk top l) : endsOf folk top l = boundsOf folk top l := by
  unfold endsOf boundsOf
  refine List.map_congr_left fun w _ => ?_
  rw [maxL_cons fun n hn => by
    obtain ⟨s, hs, rfl⟩ := List.mem_map.mp hn
    exact (ok.ok s (List.mem_filter.mp hs).1).p1]
  rw [minL_cons fun n hn => by
    obtain ⟨s, hs, rfl⟩ := List.mem_map.mp hn
    exact (ok.ok s (List.mem_filter.mp hs).1).pt]
  rfl
/-! ### lots that reach -/
theorem allR_iff {bs : List (Int × Int)} {lot : List Nat} : allR l bs lot = true ↔ ∀ s ∈ l, ∃ w ∈ settersOf s bs, w ∈ lot := by
  unfold allR
  rw [List.all_eq_true]
  refine forall_congr' fun s => forall_congr' fun hs => ?_
  simp only [Bool.not_eq_true', decide_eq_false_iff_not]
  constructor
  · intro h
    obtain ⟨w, hw⟩ := List.exists_mem_of_ne_nil _ h
    unfold othR at hw
    have h2 := List.mem_filter.mp hw
    rw [Bool.and_eq_true] at h2
    exact ⟨w, List.mem_filter.mpr ⟨h2.1, h2.2.2⟩, by simpa using h2.2.1⟩
  · rintro ⟨w, h1, h2⟩ z
    have h1 := List.mem_filter.mp h1
    have : w ∈ othR s bs lot := List.mem_filter.mpr ⟨h1.1, by rw [h1.2]; simp [h2]⟩
    rw [z] at this
    cases this
theorem any_iff {s : Sale} {bs : List (Int × Int)} {lot : List Nat} : ((settersOf s bs).map fun w => decide (w ∈ lot)).any id = true ↔ ∃ w ∈ settersOf s bs, w ∈ lot := by
  rw [List.any_eq_true]
  constructor
  · rintro ⟨x, hx, e⟩
    obtain ⟨w, hw, rfl⟩ := List.mem_map.mp hx
    exact ⟨w, hw, by simpa using e⟩
  · rintro ⟨w, hw, e⟩
    exact ⟨true, List.mem_map.mpr ⟨w, hw, by simp [e]⟩, rfl⟩
theorem allReach_iff {bs : List (Int × Int)} {lot : List Nat} : allReach l bs lot = true ↔ ∀ s ∈ l, ∃ w ∈ settersOf s bs, w ∈ lot := by
  unfold allReach
  rw [List.all_eq_true]
  constructor
  · intro h s hs
    exact any_iff.mp (h _ (List.mem_map.mpr ⟨s, hs, rfl⟩))
  · intro h x hx
    obtain ⟨s, hs, rfl⟩ := List.mem_map.mp hx
    exact any_iff.mpr (h s hs)
theorem reachesB_iff {bs : List (Int × Int)} {lot : List Nat} {p : Int} : reachesB l bs p lot = true ↔ ∀ s ∈ l, s.price = p → ∃ w ∈ settersOf s bs, w ∈ lot := by
  unfold reachesB
  rw [List.all_eq_true]
  constructor
  · intro h s hs e
    exact any_iff.mp (h _ (List.mem_map.mpr ⟨s, List.mem_filter.mpr ⟨hs, by simp [e]⟩, rfl⟩))
  · intro h x hx
    obtain ⟨s, hs, rfl⟩ := List.mem_map.mp hx
    have := List.mem_filter.mp hs
    exact any_iff.mpr (h s this.1 (by simpa using this.2))
theorem allR_eq {bs : List (Int × Int)} {lot : List Nat} : allR l bs lot = allReach l bs lot := by
  rw [Bool.eq_iff_iff, allR_iff, allReach_iff]
theorem Worths.good (h : Worths folk top l ws) : goodOf folk l (boundsOf folk top l) ≠ [] := by
  intro z
  have : List.range folk ∈ goodOf folk l (boundsOf folk top l) := List.mem_filter.mpr ⟨(lotsOf_mem _ _).mpr (List.Sublist.refl _), allReach_iff.mpr fun s hs => by
    obtain ⟨w, hw⟩ := h.setter hs
    exact ⟨w, hw, List.mem_range.mpr ((h.ok.ok s hs).lt w (List.mem_filter.mp hw).1)⟩⟩
  rw [z] at this
  cases this
theorem Worths.costs (h : Worths folk top l ws) (bought : List Nat) (p : Int) : costsOf l (boundsOf folk top l) bought p ≠ [] := by
  intro z
  have hm : groupOf l (boundsOf folk top l) p ∈ (lotsOf (groupOf l (boundsOf folk top l) p)).filter (reachesB l (boundsOf folk top l) p) := List.mem_filter.mpr ⟨(lotsOf_mem _ _).mpr (List.Sublist.refl _), reachesB_iff.mpr fun s hs e => by
    obtain ⟨w, hw⟩ := h.setter hs
    exact ⟨w, hw, group_mem.mpr ⟨s, hs, e, hw⟩⟩⟩
  unfold costsOf at z
  rw [List.map_eq_nil_iff.mp z] at hm
  cases hm
theorem one_len {bs : List (Int × Int)} {lot : List Nat} : (oneOf bs lot).length = bs.length := by unfold oneOf; rw [List.length_map, List.length_zipIdx]
theorem one_at {bs : List (Int × Int)} {lot : List Nat} {w : Nat} (h : w < bs.length) : wAt (oneOf bs lot) w = if w ∈ lot then hiOf bs w else loOf bs w := by
  unfold wAt oneOf hiOf loOf
  simp only [List.getD_eq_getElem?_getD, List.getElem?_map, List.getElem?_zipIdx, List.getElem?_eq_getElem h]
  simp
theorem Worths.fits (h : Worths folk top l ws) {lot : List Nat} (hr : allR l (boundsOf folk top l) lot = true) {s : Sale} (hs : s ∈ l) : FitOk (oneOf (boundsOf folk top l) lot) s := by
  have so := h.ok.ok s hs
  have hl : (oneOf (boundsOf folk top l) lot).length = folk := by rw [one_len, bounds_len]
  have hat : ∀ w, w < folk → wAt (oneOf (boundsOf folk top l) lot) w = if w ∈ lot then lostAt top l w else wonAt l w := fun w hw => by
    rw [one_at (by rw [bounds_len]; exact hw), (hi_eq hw).1, (hi_eq hw).2]
  refine ⟨⟨(maxL_eq ?_ fun y hy => ?_).symm, ?_⟩, by rw [hl]; exact so.win, fun w hw => by rw [hl]; exact so.lt w hw, so.ne, (h.ok.sok hs).2⟩
  · obtain ⟨w, h1, h2⟩ := allR_iff.mp hr s hs
    have h3 := (setter_mem h.ok hs).mp h1
    exact List.mem_map.mpr ⟨w, h3.1, by rw [hat w (so.lt w h3.1), if_pos h2]; exact h3.2⟩
  · obtain ⟨w, hw, rfl⟩ := List.mem_map.mp hy
    rw [hat w (so.lt w hw)]
    have h1 := lost_le (top := top) hs hw
    have h2 := h.lohi (so.lt w hw)
    split <;> omega
  · rw [hat _ so.win]
    have h1 := won_ge hs
    have h2 := h.lohi so.win
    split <;> omega
end
section
variable {folk : Nat} {top : Int} {l : List Sale} {ws : List Int}
def cnt (l : List Sale) (w : Nat) : Nat := (l.filter fun s => decide (s.win = w)).length
theorem cnt_sum (f : Nat → Int) {n : Nat} : ∀ {l : List Sale}, (∀ s ∈ l, s.win < n) → (l.map fun s => f s.win).sum = ((List.range n).map fun w => (cnt l w : Int) * f w).sum
  | [], _ => (sum_zero fun w _ => by simp [cnt]).symm
  | s :: l, h => by
    simp only [List.map_cons, List.sum_cons]
    rw [cnt_sum f fun t ht => h t (List.mem_cons_of_mem _ ht)]
    have h1 : ((List.range n).map fun w => if w = s.win then f w else 0).sum = f s.win := by
      rw [sum_one (h := s.win) List.nodup_range fun b _ hb => if_neg hb, if_pos (List.mem_range.mpr (h s List.mem_cons_self)), if_pos rfl]
    rw [← h1, ← sum_add]
    refine sum_congr fun w _ => ?_
    unfold cnt
    by_cases e : s.win = w
    · rw [List.filter_cons_of_pos (by simpa using e), if_pos e.symm, List.length_cons, show (((l.filter fun s => decide (s.win = w)).length + 1 : Nat) : Int) = ((l.filter fun s => decide (s.win = w)).length : Int) + 1 by omega, Int.add_mul]
      omega
    · rw [List.filter_cons_of_neg (by simpa using e), if_neg (fun z => e z.symm)]
      omega
theorem bought_cnt {w : Nat} (h : w < folk) : (boughtOf folk l).getD w 0 = cnt l w := by
  unfold boughtOf
  rw [List.getD_eq_getElem?_getD, List.getElem?_map, List.getElem?_range h]
  rfl
def cOf (top : Int) (l : List Sale) (w : Nat) : Int := (cnt l w : Int) * (lostAt top l w - wonAt l w)
theorem cost_eq {lot : List Nat} (h : ∀ w ∈ lot, w < folk) : costOf (boughtOf folk l) (boundsOf folk top l) lot = (lot.map (cOf top l)).sum := by
  unfold costOf
  refine sum_congr fun w hw => ?_
  rw [bought_cnt (h w hw), (hi_eq (h w hw)).1, (hi_eq (h w hw)).2]
  rfl
theorem least_from : leastFrom l (boundsOf folk top l) (boughtOf folk l) = ((List.range folk).map fun w => (cnt l w : Int) * wonAt l w).sum - paidOf l := by
  unfold leastFrom boughtOf boundsOf
  rw [zmap, List.map_map]
  rfl
theorem gain_eq (ok : LogOk folk top l) {lot : List Nat} : gainOf l (oneOf (boundsOf folk top l) lot) = leastFrom l (boundsOf folk top l) (boughtOf folk l) + ((List.range folk).map fun w => if w ∈ lot then cOf top l w else 0).sum := by
  unfold gainOf
  rw [sum_sub (fun s : Sale => wAt (oneOf (boundsOf folk top l) lot) s.win) Sale.price, cnt_sum (wAt (oneOf (boundsOf folk top l) lot)) fun s hs => (ok.ok s hs).win, least_from]
  have e : ((List.range folk).map fun w => (cnt l w : Int) * wAt (oneOf (boundsOf folk top l) lot) w).sum = ((List.range folk).map fun w => (cnt l w : Int) * wonAt l w).sum + ((List.range folk).map fun w => if w ∈ lot then cOf top l w else 0).sum := by
    rw [← sum_add]
    refine sum_congr fun w hw => ?_
    have hw' := List.mem_range.mp hw
    rw [one_at (by rw [bounds_len]; exact hw'), (hi_eq hw').1, (hi_eq hw').2]
    unfold cOf
    split
    · rw [← Int.mul_add]
      congr 1
      omega
    · omega
  rw [e]
  unfold paidOf
  omega
theorem least_add {bs : List (Int × Int)} {bought : List Nat} : ∀ (ps : List Int) (a : Int), leastAdd l bs bought a ps = a + (ps.map fun p => minL (costsOf l bs bought p)).sum
  | [], a => by simp [leastAdd]
  | p :: ps, a => by
    have := least_add (bs := bs) (bought := bought) ps (a + minL (costsOf l bs bought p))
    unfold leastAdd at this ⊢
    rw [List.foldl_cons, this]
    simp only [List.map_cons, List.sum_cons]
    omega
theorem prices_nodup : (pricesOf l).Nodup := (sortL_perm _).nodup_iff.mpr (insK_spec _ [] List.nodup_nil).1
theorem prices_mem {s : Sale} (h : s ∈ l) : s.price ∈ pricesOf l := (sortL_perm _).mem_iff.mpr (((insK_spec _ [] List.nodup_nil).2 _).mpr (.inr (List.mem_map.mpr ⟨s, h, rfl⟩)))
theorem group_lt (ok : LogOk folk top l) {p : Int} {w : Nat} (h : w ∈ groupOf l (boundsOf folk top l) p) : w < folk ∧ lostAt top l w = p := by
  obtain ⟨s, h1, h2, h3⟩ := group_mem.mp h
  have h4 := (setter_mem ok h1).mp h3
  exact ⟨(ok.ok s h1).lt w h4.1, by rw [h4.2, h2]⟩
theorem group_nodup {bs : List (Int × Int)} {p : Int} : (groupOf l bs p).Nodup := group_up.imp fun h => Nat.ne_of_lt h
theorem Worths.cnn (h : Worths folk top l ws) {w : Nat} (hw : w < folk) : 0 ≤ cOf top l w := by
  have := h.lohi hw
  exact Int.mul_nonneg (by omega) (by omega)
/-- none is cheaper -/
theorem Worths.lower (h : Worths folk top l ws) {lot : List Nat} (hr : allR l (boundsOf folk top l) lot = true) : leastOf l (boundsOf folk top l) (boughtOf folk l) ≤ gainOf l (oneOf (boundsOf folk top l) lot) := by
  unfold leastOf
  rw [least_add, gain_eq h.ok]
  refine Int.add_le_add_left ?_ _
  have step : ∀ p ∈ pricesOf l, minL (costsOf l (boundsOf folk top l) (boughtOf folk l) p) ≤ ((List.range folk).map fun w => if w ∈ (groupOf l (boundsOf folk top l) p).filter (fun w => decide (w ∈ lot)) then cOf top l w else 0).sum := fun p hp => by
    have hsub : ∀ w ∈ (groupOf l (boundsOf folk top l) p).filter (fun w => decide (w ∈ lot)), w < folk := fun w hw => (group_lt h.ok (List.mem_filter.mp hw).1).1
    rw [← sum_sub_nodup List.nodup_range (group_nodup.filter _) fun w hw => List.mem_range.mpr (hsub w hw), ← cost_eq hsub]
    refine (minL_spec (h.costs _ p)).2 _ (List.mem_map.mpr ⟨_, List.mem_filter.mpr ⟨(lotsOf_mem _ _).mpr List.filter_sublist, reachesB_iff.mpr fun s hs e => ?_⟩, rfl⟩)
    obtain ⟨w, h1, h2⟩ := allR_iff.mp hr s hs
    exact ⟨w, h1, List.mem_filter.mpr ⟨group_mem.mpr ⟨s, hs, e, h1⟩, by simp [h2]⟩⟩
  refine Int.le_trans (sum_le step) ?_
  rw [sum_swap]
  refine sum_le fun w hw => ?_
  have hw' := List.mem_range.mp hw
  rw [sum_one (h := lostAt top l w) prices_nodup fun p _ hne => if_neg fun z => hne (group_lt h.ok (List.mem_filter.mp z).1).2.symm]
  have c0 := h.cnn hw'
  by_cases hl : w ∈ lot
  · rw [if_pos hl]
    split
    · split <;> omega
    · exact c0
  · rw [if_neg hl]
    split
    · rw [if_neg fun z => hl (by simpa using (List.mem_filter.mp z).2)]
      exact Int.le_refl _
    · exact Int.le_refl _
/-- one is as cheap -/
theorem Worths.attained (h : Worths folk top l ws) : ∃ lot ∈ lotsOf (List.range folk), allR l (boundsOf folk top l) lot = true ∧ gainOf l (oneOf (boundsOf folk top l) lot) = leastOf l (boundsOf folk top l) (boughtOf folk l) := by
  have ex : ∀ p : Int, ∃ L : List Nat, L.Sublist (groupOf l (boundsOf folk top l) p) ∧ reachesB l (boundsOf folk top l) p L = true ∧ costOf (boughtOf folk l) (boundsOf folk top l) L = minL (costsOf l (boundsOf folk top l) (boughtOf folk l) p) := fun p => by
    have hm := (minL_spec (h.costs (boughtOf folk l) p)).1
    obtain ⟨L, h1, h2⟩ := List.mem_map.mp hm
    have h3 := List.mem_filter.mp h1
    exact ⟨L, (lotsOf_mem _ _).mp h3.1, h3.2, h2⟩
  obtain ⟨L, hL⟩ := Classical.axiomOfChoice ex
  have hg : ∀ p, ∀ w ∈ L p, w < folk ∧ lostAt top l w = p := fun p w hw => group_lt h.ok ((hL p).1.subset hw)
  refine ⟨(List.range folk).filter fun w => (pricesOf l).any fun p => decide (w ∈ L p), (lotsOf_mem _ _).mpr List.filter_sublist, allR_iff.mpr fun s hs => ?_, ?_⟩
  · obtain ⟨w, h1, h2⟩ := reachesB_iff.mp (hL s.price).2.1 s hs rfl
    exact ⟨w, h1, List.mem_filter.mpr ⟨List.mem_range.mpr (hg _ w h2).1, List.any_eq_true.mpr ⟨s.price, prices_mem hs, by simp [h2]⟩⟩⟩
  · unfold leastOf
    rw [least_add, gain_eq h.ok]
    congr 1
    have e1 : ((pricesOf l).map fun p => minL (costsOf l (boundsOf folk top l) (boughtOf folk l) p)).sum = ((pricesOf l).map fun p => ((List.range folk).map fun w => if w ∈ L p then cOf top l w else 0).sum).sum := sum_congr fun p hp => by
      rw [← (hL p).2.2, cost_eq fun w hw => (hg p w hw).1, sum_sub_nodup List.nodup_range (List.Nodup.sublist (hL p).1 group_nodup) fun w hw => List.mem_range.mpr (hg p w hw).1]
    rw [e1, sum_swap]
    refine sum_congr fun w hw => ?_
    rw [sum_one (h := lostAt top l w) prices_nodup fun p _ hne => if_neg fun z => hne (hg p w z).2.symm]
    by_cases hp : lostAt top l w ∈ pricesOf l
    · rw [if_pos hp]
      by_cases hm : w ∈ L (lostAt top l w)
      · rw [if_pos hm, if_pos (List.mem_filter.mpr ⟨hw, List.any_eq_true.mpr ⟨_, hp, by simp [hm]⟩⟩)]
      · rw [if_neg hm, if_neg fun z => by
          obtain ⟨p, _, hz⟩ := List.any_eq_true.mp (List.mem_filter.mp z).2
          have hz' : w ∈ L p := by simpa using hz
          exact hm ((hg p w hz').2 ▸ hz')]
    · rw [if_neg hp, if_neg fun z => by
        obtain ⟨p, h2, hz⟩ := List.any_eq_true.mp (List.mem_filter.mp z).2
        have hz' : w ∈ L p := by simpa using hz
        exact hp ((hg p w hz').2 ▸ h2)]
end
abbrev s__law_ends : Stmt := topS 46
abbrev n__law_ends : List Str := ["folk1", "top1", "log1", "found", "who", "bought", "lost", "sale"]
theorem sc__law_ends : FnScope n__law_ends ["folk1", "top1", "log1"] (defScope s__law_ends) := ⟨rfl, rfl, rfl, by decide +kernel, rfl, by decide +kernel, by decide +kernel⟩
def C__law_ends : Con := fun ds B r B' => ∃ (folk : Nat) (top : Int) (l : List Sale), folk ≤ 1000 ∧ l.length ≤ 1000 ∧ ds = [nD folk, .int top, logD l] ∧ r = .d (.lst ((endsOf folk top l).map bD)) ∧ B' = B
theorem has__law_ends {T : Top} {f : Addr} {fd : FuncData} (bl : Bl T) (F : Fun T.K "_law_ends" "_law_ends" s__law_ends f fd) (hm : T.mg "_law_ends" = some (.ref f)) : HasFn T 1 "_law_ends" C__law_ends := by
  refine fn_ok F sc__law_ends hm (F.binds fun _ _ _ _ _ _ us hl => match us, hl with | [_, _, _], _ => rfl) (fun ds B r B' ⟨_, _, _, _, _, h, _⟩ => by rw [h]; rfl) fun ds B r B' ⟨folk, top, l, hf, hl, h1, h2, h3⟩ => ?_
  subst h1 h2 h3
  refine exs_cons (ex_setR (i := 3) (by walk_at "st") (evr_lst evs_nil) ?_ (fun _ _ => rfl))
  let ρ1 (es : List (Int × Int)) : Rho := [.d (nD folk), .d (.int top), .d (logD l), .o (.l (es.map bD)), .u, .u, .u, .u]
  refine exs_cons (ex_for (B1 := B') (ds := (List.range folk).map nD) (it_rangeN rfl bl.range (by walk_at "nm") (by omega)) (fun i ρ C => ∃ es, es = (endsOf folk top l).take i ∧ ρ = ρ1 es ∧ C = B') ⟨[], rfl, rfl, rfl⟩ (fun i d ρ' C hd ⟨es, h1, h2, h3⟩ => ?_) fun ρ' C h => ?_)
  · obtain ⟨w, hx, rfl, hm, hi, ht⟩ := map_get hd
    rw [List.length_range] at hi
    subst h2 h3
    refine ⟨_, _, tg_name (i := 4) (by walk_at "st"), ?_⟩
    refine exs_cons (ex_setF (i := 5) (own := [("sale", 7)]) Sale.d .int (fun s => decide (s.win = w)) Sale.price l (by walk_at "st") rfl (it_seq (by walk_at "nm") rfl) (by walk_at "blk") rfl (by omega) (fun s hs => lcp1 (tg_name (i := 7) (by walk_at "st")) (ts_cmp c_eqN (ev_ixN (i := 0) (by walk_at "nm") ev_int rfl rfl) (by walk_at "nm")) fun _ => ev_ixN (i := 1) (by walk_at "nm") ev_int rfl rfl) ?_)
    refine exs_cons (ex_setF (i := 6) (own := [("sale", 7)]) Sale.d .int (fun s => decide (w ∈ s.others)) Sale.price l (by walk_at "st") rfl (it_seq (by walk_at "nm") rfl) (by walk_at "blk") rfl (by omega) (fun s hs => lcp1 (tg_name (i := 7) (by walk_at "st")) (ts_cmp (c_inN rfl) (by walk_at "nm") (ev_ixN (i := 2) (by walk_at "nm") ev_int rfl rfl)) fun _ => ev_ixN (i := 1) (by walk_at "nm") ev_int rfl rfl) ?_)
    have l1 := List.length_filter_le (fun s : Sale => decide (s.win = w)) l
    have l2 := List.length_filter_le (fun s : Sale => decide (w ∈ s.others)) l
    have le : es.length ≤ 1000000 := by
      rw [h1, List.length_take]
      unfold endsOf
      rw [List.length_map, List.length_range]
      omega
    refine exs_cons (ex_append (i := 3) (B1 := C) (y := bD (maxL (1 :: (l.filter fun s => decide (s.win = w)).map Sale.price), minL (top :: (l.filter fun s => decide (w ∈ s.others)).map Sale.price))) rfl (by walk_at "vis") rfl (ev_tup (evs_cons (ev_max bl (ns := 1 :: (l.filter fun s => decide (s.win = w)).map Sale.price) (ev_catL (xs := [.int 1]) (ys := ((l.filter fun s => decide (s.win = w)).map Sale.price).map .int) (ev_lst (evs_cons ev_int evs_nil)) (by walk_at "nm") ?l1) (fun z => nomatch z))
      (evs_cons (ev_min bl (ns := top :: (l.filter fun s => decide (w ∈ s.others)).map Sale.price) (ev_catL (xs := [.int top]) (ys := ((l.filter fun s => decide (w ∈ s.others)).map Sale.price).map .int) (ev_lst (evs_cons (by walk_at "nm") evs_nil)) (by walk_at "nm") ?l2) (fun z => nomatch z)) evs_nil))) (exs_fgt (is := [4, 5, 6]) (exs_nil ⟨es ++ [(maxL (1 :: (l.filter fun s => decide (s.win = w)).map Sale.price), minL (top :: (l.filter fun s => decide (w ∈ s.others)).map Sale.price))], ?_, ?_, rfl⟩)) (by rw [List.length_map]; exact le))
    · rw [List.length_map, List.length_map]; simp; omega
    · rw [List.length_map, List.length_map]; simp; omega
    · rw [h1]
      unfold endsOf
      rw [← List.map_take, ← List.map_take, ht, List.map_append]
      rfl
    · show _ = ρ1 _
      dsimp only [ρ1]
      rw [List.map_append]
      rfl
  · obtain ⟨es, h1, h2, h3⟩ := h
    subst h2 h3
    rw [List.take_of_length_le (by unfold endsOf; rw [List.length_map, List.length_map]; exact Nat.le_refl _)] at h1
    subst h1
    exact exs_fz (i := 3) rfl (exs_one (ex_ret (by walk_at "nm") ⟨rfl, rfl⟩))
/-! ### ways -/
def spanOf (bs : List (Int × Int)) (w : Nat) : Int := hiOf bs w - loOf bs w
def partF (bs : List (Int × Int)) (lot : List Nat) (a : Int) (w : Nat) : Int := a * (if w ∈ lot then 1 else spanOf bs w)
def partOf (bs : List (Int × Int)) (grp lot : List Nat) : Int := grp.foldl (partF bs lot) 1
def manyOf (l : List Sale) (bs : List (Int × Int)) (p : Int) : Int := (((lotsOf (groupOf l bs p)).filter (reachesB l bs p)).map (partOf bs (groupOf l bs p))).sum
def manyF (l : List Sale) (bs : List (Int × Int)) (a p : Int) : Int := a * manyOf l bs p
def castN (ns : List Nat) : List Int := ns.map fun n : Nat => (n : Int)
def seenF (l : List Sale) (bs : List (Int × Int)) (ks : List Int) (p : Int) : List Int := (castN (groupOf l bs p)).foldl insK ks
def seenOf (l : List Sale) (bs : List (Int × Int)) (ps : List Int) : List Int := ps.foldl (seenF l bs) []
def restF (l : List Sale) (bs : List (Int × Int)) (ks : List Int) (a : Int) (w : Nat) : Int := if (w : Int) ∈ ks then a else a * (spanOf bs w + 1)
def okB (l : List Sale) (bs : List (Int × Int)) : Bool := (bs.map fun b => decide (b.1 ≤ b.2)).all id && (l.map fun s => !decide (settersOf s bs = [])).all id
def waysOf (folk : Nat) (l : List Sale) (bs : List (Int × Int)) : Int := (List.range folk).foldl (restF l bs (seenOf l bs (pricesOf l))) ((pricesOf l).foldl (manyF l bs) 1)
def waysF (folk : Nat) (l : List Sale) (bs : List (Int × Int)) : Int := if okB l bs then waysOf folk l bs else 0
def Sz (x : Int) (a : Nat) : Prop := x.natAbs < 2 ^ a
theorem Sz.mono {x : Int} {a b : Nat} (h : Sz x a) (hb : a ≤ b) : Sz x b := Nat.lt_of_lt_of_le h (Nat.pow_le_pow_right (by omega) hb)
theorem Sz.mul {x y : Int} {a b : Nat} (h : Sz x a) (h2 : Sz y b) : Sz (x * y) (a + b) := wide_lt h h2
theorem Sz.add {x y : Int} {a : Nat} (h : Sz x a) (h2 : Sz y a) : Sz (x + y) (a + 1) := by
  unfold Sz at *
  have : (x + y).natAbs ≤ x.natAbs + y.natAbs := Int.natAbs_add_le x y
  rw [Nat.pow_succ]
  omega
theorem sz_one : Sz 1 1 := by unfold Sz; decide
theorem sz_span {bs : List (Int × Int)} {w : Nat} (h : ∀ b ∈ bs, 0 ≤ b.1 ∧ b.1 ≤ 1000 ∧ 0 ≤ b.2 ∧ b.2 ≤ 1000) : -1000 ≤ spanOf bs w ∧ spanOf bs w ≤ 1000 := by
  unfold spanOf hiOf loOf
  rw [List.getD_eq_getElem?_getD]
  cases hg : bs[w]? with
  | none => simp
  | some b =>
    have := h b (List.mem_of_getElem? hg)
    simp
    omega
theorem sz_small {x : Int} (h : -1001 ≤ x ∧ x ≤ 1001) : Sz x 10 := by
  unfold Sz
  have : (2 : Nat) ^ 10 = 1024 := by decide
  omega
theorem sz_part {bs : List (Int × Int)} {lot : List Nat} (h : ∀ b ∈ bs, 0 ≤ b.1 ∧ b.1 ≤ 1000 ∧ 0 ≤ b.2 ∧ b.2 ≤ 1000) : ∀ (ws : List Nat) (a : Int) (n : Nat), Sz a n → Sz (ws.foldl (partF bs lot) a) (n + 10 * ws.length)
  | [], _, _, ha => ha
  | w :: ws, a, n, ha => by
    have h1 : Sz (partF bs lot a w) (n + 10) := by
      unfold partF
      refine ha.mul (sz_small ?_)
      have := sz_span (w := w) h
      split <;> omega
    have := sz_part (lot := lot) h ws _ _ h1
    rw [List.foldl_cons, List.length_cons]
    exact this.mono (by omega)
theorem sz_sum : ∀ (xs : List Int) (n : Nat), (∀ x ∈ xs, Sz x n) → Sz xs.sum (n + xs.length)
  | [], n, _ => by
    unfold Sz
    exact Nat.pow_pos (by omega)
  | x :: xs, n, h => by
    have h1 := sz_sum xs n fun y hy => h y (List.mem_cons_of_mem _ hy)
    have h2 := h x List.mem_cons_self
    rw [List.sum_cons, List.length_cons]
    exact ((h2.mono (by omega)).add h1).mono (by omega)
theorem lots_part_sz {l : List Sale} {bs : List (Int × Int)} {p : Int} (ok : BsOk bs l) (h : ∀ b ∈ bs, 0 ≤ b.1 ∧ b.1 ≤ 1000 ∧ 0 ≤ b.2 ∧ b.2 ≤ 1000) (xs : List (List Nat)) (hx : xs.length ≤ 256) : Sz ((xs.map (partOf bs (groupOf l bs p))).sum) 400 := by
  have := sz_sum (xs.map (partOf bs (groupOf l bs p))) 81 fun x hx => by
    obtain ⟨lot, _, rfl⟩ := List.mem_map.mp hx
    exact (sz_part h (groupOf l bs p) 1 1 sz_one).mono (by have := group_len (p := p) ok; omega)
  rw [List.length_map] at this
  exact this.mono (by omega)
theorem many_sz {l : List Sale} {bs : List (Int × Int)} (ok : BsOk bs l) (h : ∀ b ∈ bs, 0 ≤ b.1 ∧ b.1 ≤ 1000 ∧ 0 ≤ b.2 ∧ b.2 ≤ 1000) (p : Int) : Sz (manyOf l bs p) 400 := by
  unfold manyOf
  refine lots_part_sz ok h _ ?_
  refine Nat.le_trans (List.length_filter_le _ _) ?_
  rw [lotsOf_len]
  exact pow8 (group_len ok)
theorem many_fold_sz {l : List Sale} {bs : List (Int × Int)} (ok : BsOk bs l) (h : ∀ b ∈ bs, 0 ≤ b.1 ∧ b.1 ≤ 1000 ∧ 0 ≤ b.2 ∧ b.2 ≤ 1000) : ∀ (ps : List Int) (a : Int) (n : Nat), Sz a n → Sz (ps.foldl (manyF l bs) a) (n + 400 * ps.length)
  | [], _, _, ha => ha
  | p :: ps, a, n, ha => by
    have h1 : Sz (manyF l bs a p) (n + 400) := ha.mul (many_sz ok h p)
    have := many_fold_sz ok h ps _ _ h1
    rw [List.foldl_cons, List.length_cons]
    exact this.mono (by omega)
theorem rest_fold_sz {l : List Sale} {bs : List (Int × Int)} {ks : List Int} (h : ∀ b ∈ bs, 0 ≤ b.1 ∧ b.1 ≤ 1000 ∧ 0 ≤ b.2 ∧ b.2 ≤ 1000) : ∀ (ws : List Nat) (a : Int) (n : Nat), Sz a n → Sz (ws.foldl (restF l bs ks) a) (n + 10 * ws.length)
  | [], _, _, ha => ha
  | w :: ws, a, n, ha => by
    have h1 : Sz (restF l bs ks a w) (n + 10) := by
      unfold restF
      split
      · exact ha.mono (by omega)
      · refine ha.mul (sz_small ?_)
        have := sz_span (w := w) h
        omega
    have := rest_fold_sz (l := l) (ks := ks) h ws _ _ h1
    rw [List.foldl_cons, List.length_cons]
    exact this.mono (by omega)
theorem prices_len {l : List Sale} (h : l.length ≤ 8) : (pricesOf l).length ≤ 8 := by
  have := insK_le (l.map Sale.price) []
  unfold pricesOf
  rw [(sortL_perm _).length_eq]
  rw [List.length_map, List.length_nil] at this
  omega
theorem seen_len {l : List Sale} {bs : List (Int × Int)} (ok : BsOk bs l) : ∀ (ps : List Int) (ks : List Int), (ps.foldl (seenF l bs) ks).length ≤ ks.length + 8 * ps.length
  | [], _ => by simp
  | p :: ps, ks => by
    have h := seen_len ok ps (seenF l bs ks p)
    have h2 := insK_le (castN (groupOf l bs p)) ks
    have h3 := group_len (p := p) ok
    have h4 : (castN (groupOf l bs p)).length = (groupOf l bs p).length := by unfold castN; rw [List.length_map]
    have h5 : (seenF l bs ks p).length ≤ ks.length + (castN (groupOf l bs p)).length := h2
    rw [List.foldl_cons, List.length_cons]
    omega
theorem insK_nodup : ∀ (xs acc : List Int), (acc ++ xs).Nodup → xs.foldl insK acc = acc ++ xs
  | [], acc, _ => by simp
  | x :: xs, acc, h => by
    have h1 : x ∉ acc := fun z => (List.nodup_append.mp h).2.2 x z x List.mem_cons_self rfl
    have h2 : insK acc x = acc ++ [x] := by unfold insK; rw [if_neg h1]
    rw [List.foldl_cons, h2, insK_nodup xs (acc ++ [x]) (by rw [List.append_assoc]; exact h), List.append_assoc]
    rfl
theorem cast_nodup {ns : List Nat} (h : ns.Pairwise (· < ·)) : (castN ns).Nodup := by
  unfold castN
  refine List.pairwise_map.mpr (h.imp fun hab z => ?_)
  have : (_ : Int) = _ := z
  omega
abbrev s_ways : Stmt := topS 29
abbrev n_ways : List Str := ["folk", "top", "log", "some", "found", "seen", "price", "who", "group", "many", "lot", "part", "sale", "low", "high"]
theorem sc_ways : FnScope n_ways ["folk", "top", "log", "some"] (defScope s_ways) := ⟨rfl, rfl, rfl, by decide +kernel, rfl, by decide +kernel, by decide +kernel⟩
def C_ways : Con := fun ds B r B' => ∃ (folk : Nat) (top : Int) (l : List Sale) (bs : List (Int × Int)), BsOk bs l ∧ bs.length = folk ∧ (∀ b ∈ bs, 0 ≤ b.1 ∧ b.1 ≤ 1000 ∧ 0 ≤ b.2 ∧ b.2 ≤ 1000) ∧ ds = [nD folk, .int top, logD l, .lst (bs.map bD)] ∧ r = .d (.int (waysF folk l bs)) ∧ B' = B
theorem has_ways {T : Top} {f : Addr} {fd : FuncData} (bl : Bl T) (H1 : HasFn T 1 "setters_of" C_setters_of) (H2 : HasFn T 1 "prices" C_prices) (H3 : HasFn T 2 "group_of" C_group_of) (H4 : HasFn T 1 "lots" C_lots) (H5 : HasFn T 2 "reaches" C_reaches) (F : Fun T.K "ways" "ways" s_ways f fd) (hm : T.mg "ways" = some (.ref f)) : HasFn T 3 "ways" C_ways := by
  refine fn_ok F sc_ways hm (F.binds fun _ _ _ _ _ _ us hl => match us, hl with | [_, _, _, _], _ => rfl) (fun ds B r B' ⟨_, _, _, _, _, _, _, h, _⟩ => by rw [h]; rfl) fun ds B r B' ⟨folk, top, l, bs, bok, hbl, hbd, h1, h2, h3⟩ => ?_
  subst h1 h2 h3
  have n8 := bok.n8
  have b8 := bok.b8
  refine exs_cons (ex_if (k := !((bs.map fun b => decide (b.1 ≤ b.2)).all id) || !((l.map fun s => !decide (settersOf s bs = [])).all id)) (B1 := B') (Tw.ts (tw_orP (ts_not (ts_val (ev_all bl (ev_lcE (own := [("low", 13), ("high", 14)]) bD .bl (fun b => decide (b.1 ≤ b.2)) bs (it_seq (by walk_at "nm") rfl) (by walk_at "blk") rfl (by omega) fun b hb => lcp0 (tg_tup (tgs_cons (tg_name (i := 13) (by walk_at "st")) (tgs_cons (tg_name (i := 14) (by walk_at "st")) tgs_nil))) (ev_cmp c_le (by walk_at "nm") (by walk_at "nm")))))) fun _ => tw_or1 (ts_not (ts_val (ev_all bl (ev_lcE (own := [("sale", 12)]) Sale.d .bl (fun s => !decide (settersOf s bs = [])) l (it_seq (by walk_at "nm") rfl) (by walk_at "blk") rfl (by omega) fun s hs => lcp0 (tg_name (i := 12) (by walk_at "st")) (ev_cmp (c_neL (g := blkG _ _) (xs := settersOf s bs) (ys := [])) (EvR.fz (ct := .l ((settersOf s bs).map nD)) (ev_call H1 (by show 1 ≤ 2; omega) rfl (evs_cons (by walk_at "nm") (evs_cons (by walk_at "nm") evs_nil)) ⟨s, _, rfl, (bok.so _ hs).1, (bok.so _ hs).2, rfl, rfl⟩)) (ev_lst evs_nil)))))))) (fun hk => ?bad) fun hk => exs_nil ?good)
  case bad =>
    have e : okB l bs = false := by
      unfold okB
      revert hk
      generalize (bs.map fun b => decide (b.1 ≤ b.2)).all id = u
      generalize (l.map fun s => !decide (settersOf s bs = [])).all id = v
      intro hk
      cases u <;> cases v <;> first | rfl | cases hk
    unfold waysF
    rw [e]
    exact exs_one (ex_ret ev_int ⟨rfl, rfl⟩)
  have e : okB l bs = true := by
    unfold okB
    revert hk
    generalize (bs.map fun b => decide (b.1 ≤ b.2)).all id = u
    generalize (l.map fun s => !decide (settersOf s bs = [])).all id = v
    intro hk
    cases u <;> cases v <;> first | rfl | cases hk
  unfold waysF
  rw [e, if_pos rfl]
  clear e hk
  refine exs_cons (ex_set (i := 4) (x := .int 1) (by walk_at "st") ev_int ?_ (fun _ _ => rfl))
  refine exs_cons (ex_setR (i := 5) (r := .o (.m (keysD []))) (by walk_at "st") evr_dict0 ?_ (fun _ _ => rfl))
  let ρ1 (a : Int) (ks : List Int) : Rho := ((startR n_ways [nD folk, .int top, logD l, .lst (bs.map bD)]).set 4 (.d (.int a))).set 5 (.o (.m (keysD ks)))
  have p8 := prices_len n8
  refine exs_cons (ex_for (ds := (pricesOf l).map .int) (B1 := B') (it_seq (EvR.fz (ct := .l ((pricesOf l).map .int)) (ev_call H2 (by show 1 ≤ 2; omega) rfl (evs_cons (by walk_at "nm") evs_nil) ⟨l, n8, rfl, rfl, rfl⟩)) rfl) (fun i ρ C => ρ = ρ1 (((pricesOf l).take i).foldl (manyF l bs) 1) (((pricesOf l).take i).foldl (seenF l bs) []) ∧ C = B') ⟨rfl, rfl⟩ (fun i d ρ' C hd ⟨g1, g2⟩ => ?_) fun ρ' C h => ?_)
  · obtain ⟨p, hx, rfl, hm, hi, ht⟩ := map_get hd
    subst g1 g2
    rw [ht, List.foldl_append, List.foldl_append]
    have sz := many_fold_sz bok hbd ((pricesOf l).take i) 1 1 sz_one
    have sl := seen_len bok ((pricesOf l).take i) []
    have hti : ((pricesOf l).take i).length ≤ 8 := Nat.le_trans (List.length_take_le _ _) (by omega)
    generalize ((pricesOf l).take i).foldl (manyF l bs) 1 = a at *
    generalize ((pricesOf l).take i).foldl (seenF l bs) [] = ks at *
    have gl := group_len (p := p) bok
    have gm : ∀ w ∈ groupOf l bs p, w < bs.length := fun w hw => by
      obtain ⟨s, h1, h2, h3⟩ := group_mem.mp hw
      exact (bok.so s h1).1 w (List.mem_filter.mp h3).1
    have msz := many_sz bok hbd p
    refine ⟨_, _, tg_name (i := 6) (by walk_at "st"), exs_cons (ex_set (i := 8) (x := .lst ((groupOf l bs p).map nD)) (by walk_at "st") (EvR.fz (ct := .l ((groupOf l bs p).map nD)) (ev_call H3 (by show 2 ≤ 2; omega) rfl (evs_cons (by walk_at "nm") (evs_cons (by walk_at "nm") (evs_cons (by walk_at "nm") evs_nil))) ⟨l, bs, p, bok, rfl, rfl, rfl⟩)) ?_ (fun _ _ => rfl))⟩
    refine exs_cons (ex_set (i := 9) (x := .int 0) (by walk_at "st") ev_int ?_ (fun _ _ => rfl))
    have llen : (lotsOf (groupOf l bs p)).length ≤ 256 := by rw [lotsOf_len]; exact pow8 gl
    have hmany : manyOf l bs p = (((lotsOf (groupOf l bs p)).filter (reachesB l bs p)).map (partOf bs (groupOf l bs p))).sum := rfl
    have psz : ∀ (xs : List (List Nat)), xs.length ≤ 256 → Sz ((xs.map (partOf bs (groupOf l bs p))).sum) 400 := fun xs h => lots_part_sz bok hbd xs h
    have gup : (groupOf l bs p).Pairwise (· < ·) := group_up
    have hseen : seenF l bs ks p = (castN (groupOf l bs p)).foldl insK ks := rfl
    show Exs _ _ _ _ _
    generalize groupOf l bs p = grp at *
    let ρ2 (m : Int) : Rho := (((ρ1 a ks).set 6 (.d (.int p))).set 8 (.d (.lst (grp.map nD)))).set 9 (.d (.int m))
    refine exs_cons (ex_for (ds := (lotsOf grp).map lotD) (B1 := C) (it_seq (ev_call H4 (by show 1 ≤ 2; omega) rfl (evs_cons (by walk_at "nm") evs_nil) ⟨grp, gl, rfl, rfl, rfl⟩) rfl) (fun j ρ Z => ρ = ρ2 ((((lotsOf grp).take j).filter (reachesB l bs p)).map (partOf bs grp)).sum ∧ Z = C) ⟨rfl, rfl⟩ (fun j d ρ' Z hd ⟨g1, g2⟩ => ?_) fun ρ' Z h => ?_)
    · obtain ⟨lot, hx2, rfl, hm2, hi2, ht2⟩ := map_get hd
      subst g1 g2
      rw [ht2, List.filter_append, List.map_append, List.sum_append]
      generalize ((((lotsOf grp).take j).filter (reachesB l bs p)).map (partOf bs grp)).sum = m at *
      refine ⟨_, _, tg_name (i := 10) (by walk_at "st"), exs_cons (ex_if (k := reachesB l bs p lot) (B1 := Z) (ts_val (ev_call H5 (by show 2 ≤ 2; omega) rfl (evs_cons (by walk_at "nm") (evs_cons (by walk_at "nm") (evs_cons (by walk_at "nm") (evs_cons (by walk_at "nm") evs_nil)))) ⟨l, bs, p, lot, bok, rfl, rfl, rfl⟩)) (fun hk => ?_) fun hk => ?_)⟩
      · have e1 : (([lot].filter (reachesB l bs p)).map (partOf bs grp)).sum = partOf bs grp lot := by
          rw [List.filter_cons_of_pos hk]
          simp
        rw [e1]
        refine exs_cons (ex_set (i := 11) (x := .int 1) (by walk_at "st") ev_int ?_ (fun _ _ => rfl))
        let ρ3 (q : Int) : Rho := ((ρ2 m).set 10 (.d (lotD lot))).set 11 (.d (.int q))
        refine exs_cons (ex_for (ds := grp.map nD) (B1 := Z) (it_seq (by walk_at "nm") rfl) (fun k ρ Y => ρ = ρ3 ((grp.take k).foldl (partF bs lot) 1) ∧ Y = Z) ⟨rfl, rfl⟩ (fun k d ρ' Y hd ⟨g1, g2⟩ => ?_) fun ρ' Y h => ?_)
        · obtain ⟨w, hx3, rfl, hm3, hi3, ht3⟩ := map_get hd
          subst g1 g2
          rw [ht3, List.foldl_append]
          have qz := sz_part (lot := lot) hbd (grp.take k) 1 1 sz_one
          have hkl : (grp.take k).length ≤ 8 := Nat.le_trans (List.length_take_le _ _) (by omega)
          generalize (grp.take k).foldl (partF bs lot) 1 = q at *
          have sp := sz_span (w := w) hbd
          have fz : Sz (if w ∈ lot then 1 else spanOf bs w) 10 := sz_small (by split <;> omega)
          refine ⟨_, _, tg_name (i := 7) (by walk_at "st"), exs_cons (ex_set (i := 11) (x := .int (q * (if w ∈ lot then 1 else spanOf bs w))) (by walk_at "st") (ev_bin (b_mulW (wide_mul (a := 81) (b := 10) (qz.mono (by omega)) fz (by omega) (by omega) (by omega))) (by walk_at "nm") (ev_if (k := decide (w ∈ lot)) (ts_cmp (c_inN rfl) (by walk_at "nm") (by walk_at "nm")) (fun hk => ?_) fun hk => ?_)) (exs_fgt (is := [7]) (exs_nil ⟨rfl, rfl⟩)) (fun _ _ => rfl))⟩
          · rw [if_pos (by simpa using hk)]
            exact ev_int
          · rw [if_neg (by simpa using hk)]
            exact ev_bin b_sub (ev_ixN (i := 1) (ev_ixN (i := w) (by walk_at "nm") (by walk_at "nm") rfl (bs_get (gm w hm3))) ev_int rfl rfl) (ev_ixN (i := 0) (ev_ixN (i := w) (by walk_at "nm") (by walk_at "nm") rfl (bs_get (gm w hm3))) ev_int rfl rfl)
        · obtain ⟨g1, g2⟩ := h
          subst g1 g2
          rw [List.length_map, List.take_length]
          exact exs_cons (ex_set (i := 9) (x := .int (m + partOf bs grp lot)) (by walk_at "st") (ev_bin b_add (by walk_at "nm") (by walk_at "nm")) (exs_nil (exs_fgt (is := [10, 11]) (exs_nil ⟨rfl, rfl⟩))) (fun _ _ => rfl))
      · have e1 : (([lot].filter (reachesB l bs p)).map (partOf bs grp)).sum = 0 := by
          rw [List.filter_cons_of_neg (by rw [hk]; exact Bool.false_ne_true)]
          rfl
        rw [e1, Int.add_zero]
        exact exs_nil (exs_fgt (is := [10]) (exs_nil ⟨rfl, rfl⟩))
    · obtain ⟨g1, g2⟩ := h
      subst g1 g2
      rw [List.length_map, List.take_length, ← hmany]
      have hcl : (castN grp).length = grp.length := by unfold castN; rw [List.length_map]
      refine exs_cons (ex_set (i := 4) (x := .int (a * manyOf l bs p)) (by walk_at "st") (ev_bin (b_mulW (wide_mul (a := 4000) (b := 400) (sz.mono (by omega)) msz (by omega) (by omega) (by omega))) (by walk_at "nm") (by walk_at "nm")) ?_ (fun _ _ => rfl))
      have ekd : (castN grp).foldl insK [] = castN (dedN grp) := dedN_cast grp
      refine exs_cons (ex_update (i := 5) (ks := ks) (js := (castN grp).foldl insK []) (B1 := Z) rfl (by walk_at "vis") rfl (EvR.fz (ct := .m (keysD ((castN grp).foldl insK []))) (evr_dc (own := [("who", 7)]) (it_seq (by walk_at "nm") rfl) (by walk_at "blk") rfl (B2 := Z) ?run (by rw [List.length_map]; omega))) ?nx ?len)
      case run =>
        unfold castN
        rw [List.map_map]
        exact LcP.run0 (em := nD) (f := D.int ∘ fun n : Nat => (n : Int)) (xs := grp) fun w hw => lcp0 (tg_name (i := 7) (by walk_at "st")) (by walk_at "nm")
      case len =>
        have := insK_le (castN grp) []
        rw [List.length_nil] at this
        rw [List.length_nil] at sl
        omega
      case nx =>
        refine exs_fgt (is := [6, 8, 9]) (exs_nil ⟨?_, rfl⟩)
        have e2 : ((castN grp).foldl insK []).foldl insK ks = seenF l bs ks p := by
          rw [hseen, insK_nodup (castN grp) [] (cast_nodup gup)]
          rfl
        rw [e2]
        rfl
  · obtain ⟨g1, g2⟩ := h
    subst g1 g2
    rw [List.length_map, List.take_length]
    have sz := many_fold_sz bok hbd (pricesOf l) 1 1 sz_one
    unfold waysOf seenOf
    generalize (pricesOf l).foldl (manyF l bs) 1 = a0 at *
    generalize (pricesOf l).foldl (seenF l bs) [] = ks at *
    refine exs_cons (ex_for (B1 := C) (ds := (List.range folk).map nD) (it_rangeN rfl bl.range (by walk_at "nm") (by omega)) (fun i ρ Z => ρ = ρ1 (((List.range folk).take i).foldl (restF l bs ks) a0) ks ∧ Z = C) ⟨rfl, rfl⟩ (fun i d ρ' Z hd ⟨g1, g2⟩ => ?_) fun ρ' Z h => ?_)
    · obtain ⟨w, hx, rfl, hm, hi, ht⟩ := map_get hd
      subst g1 g2
      rw [ht, List.foldl_append]
      have rz := rest_fold_sz (l := l) (ks := ks) hbd ((List.range folk).take i) _ _ sz
      have hti : ((List.range folk).take i).length ≤ 8 := by
        rw [List.length_take, List.length_range]
        omega
      generalize ((List.range folk).take i).foldl (restF l bs ks) a0 = a at *
      have hw : w < bs.length := by have := List.mem_range.mp hm; omega
      have sp := sz_span (w := w) hbd
      have fz : Sz (spanOf bs w + 1) 10 := sz_small (by omega)
      refine ⟨_, _, tg_name (i := 7) (by walk_at "st"), exs_cons (ex_if (k := !decide ((w : Int) ∈ ks)) (B1 := Z) (ts_borrow (ts_cmp c_notInKeys (by walk_at "nm") (by walk_at "nm"))) (fun hk => ?_) fun hk => ?_)⟩
      · have e1 : [w].foldl (restF l bs ks) a = a * (spanOf bs w + 1) := by
          show restF l bs ks a w = _
          unfold restF
          rw [if_neg (by simpa using hk)]
        rw [e1]
        refine exs_cons (ex_set (i := 4) (x := .int (a * (spanOf bs w + 1))) (by walk_at "st") (ev_bin (b_mulW (wide_mul (a := 5000) (b := 10) (rz.mono (by omega)) fz (by omega) (by omega) (by omega))) (by walk_at "nm") (ev_bin b_add (ev_bin b_sub (ev_ixN (i := 1) (ev_ixN (i := w) (by walk_at "nm") (by walk_at "nm") rfl (bs_get hw)) ev_int rfl rfl) (ev_ixN (i := 0) (ev_ixN (i := w) (by walk_at "nm") (by walk_at "nm") rfl (bs_get hw)) ev_int rfl rfl)) ev_int)) (exs_nil (exs_fgt (is := [7]) (exs_nil ⟨rfl, rfl⟩))) (fun _ _ => rfl))
      · have e1 : [w].foldl (restF l bs ks) a = a := by
          show restF l bs ks a w = _
          unfold restF
          rw [if_pos (by simpa using hk)]
        rw [e1]
        exact exs_nil (exs_fgt (is := [7]) (exs_nil ⟨rfl, rfl⟩))
    · obtain ⟨g1, g2⟩ := h
      subst g1 g2
      rw [List.length_map, List.take_length]
      exact exs_one (ex_ret (by walk_at "nm") ⟨rfl, rfl⟩)
/-! ### how_many, alone_at, worths, setters, ways_set, false_ones -/
theorem won_bd {folk : Nat} {top : Int} {l : List Sale} (ok : LogOk folk top l) (w : Nat) : 1 ≤ wonAt l w ∧ wonAt l w ≤ top := ⟨won_one ok, won_le ok.t1 fun s hs _ => (ok.ok s hs).pt⟩
theorem lost_bd {folk : Nat} {top : Int} {l : List Sale} (ok : LogOk folk top l) (w : Nat) : 1 ≤ lostAt top l w ∧ lostAt top l w ≤ top := ⟨lost_ge ok.t1 fun s hs _ => (ok.ok s hs).p1, lost_top ok⟩
theorem bounds_bd {folk : Nat} {top : Int} {l : List Sale} (ok : LogOk folk top l) : ∀ b ∈ boundsOf folk top l, 0 ≤ b.1 ∧ b.1 ≤ 1000 ∧ 0 ≤ b.2 ∧ b.2 ≤ 1000 := fun b hb => by
  unfold boundsOf at hb
  obtain ⟨w, _, rfl⟩ := List.mem_map.mp hb
  have h1 := won_bd ok w
  have h2 := lost_bd ok w
  have h3 := ok.tt
  show 0 ≤ wonAt l w ∧ wonAt l w ≤ 1000 ∧ 0 ≤ lostAt top l w ∧ lostAt top l w ≤ 1000
  omega
abbrev s_how_many : Stmt := topS 30
abbrev n_how_many : List Str := ["folk", "top", "log"]
theorem sc_how_many : FnScope n_how_many ["folk", "top", "log"] (defScope s_how_many) := ⟨rfl, rfl, rfl, by decide +kernel, rfl, by decide +kernel, by decide +kernel⟩
def C_how_many : Con := fun ds B r B' => ∃ (folk : Nat) (top : Int) (l : List Sale), LogOk folk top l ∧ ds = [nD folk, .int top, logD l] ∧ r = .d (.int (waysF folk l (boundsOf folk top l))) ∧ B' = B
theorem has_how_many {T : Top} {f : Addr} {fd : FuncData} (H1 : HasFn T 6 "look_at" C_look_at) (H2 : HasFn T 3 "ways" C_ways) (H3 : HasFn T 2 "bounds" C_bounds) (F : Fun T.K "how_many" "how_many" s_how_many f fd) (hm : T.mg "how_many" = some (.ref f)) : HasFn T 7 "how_many" C_how_many := by
  refine fn_ok F sc_how_many hm (F.binds fun _ _ _ _ _ _ us hl => match us, hl with | [_, _, _], _ => rfl) (fun ds B r B' ⟨_, _, _, _, h, _⟩ => by rw [h]; rfl) fun ds B r B' ⟨folk, top, l, ok, h1, h2, h3⟩ => ?_
  subst h1 h2 h3
  have n8 := ok.n8
  have f8 := ok.f8
  refine exs_cons (ex_expr (ev_call H1 (by show 6 ≤ 6; omega) rfl (evs_cons (by walk_at "nm") (evs_cons (by walk_at "nm") (evs_cons (by walk_at "nm") evs_nil))) ⟨folk, top, l, ok, rfl, rfl, rfl⟩) ?_)
  exact exs_one (ex_ret (ev_call H2 (by show 3 ≤ 6; omega) rfl (evs_cons (by walk_at "nm") (evs_cons (by walk_at "nm") (evs_cons (by walk_at "nm") (evs_cons (EvR.fz (ct := .l ((boundsOf folk top l).map bD)) (ev_call H3 (by show 2 ≤ 6; omega) rfl (evs_cons (by walk_at "nm") (evs_cons (by walk_at "nm") (evs_cons (by walk_at "nm") evs_nil))) ⟨folk, top, l, by omega, by omega, rfl, rfl, rfl⟩)) evs_nil)))) ⟨folk, top, l, boundsOf folk top l, bounds_ok ok, bounds_len, bounds_bd ok, rfl, rfl, rfl⟩) ⟨rfl, rfl⟩)
def aloneB (l : List Sale) (bs : List (Int × Int)) (w : Nat) : Bool := (l.map fun s => decide (settersOf s bs = [w])).any id
abbrev s_alone_at : Stmt := topS 31
abbrev n_alone_at : List Str := ["log", "some", "who", "sale"]
theorem sc_alone_at : FnScope n_alone_at ["log", "some", "who"] (defScope s_alone_at) := ⟨rfl, rfl, rfl, by decide +kernel, rfl, by decide +kernel, by decide +kernel⟩
def C_alone_at : Con := fun ds B r B' => ∃ (l : List Sale) (bs : List (Int × Int)) (w : Nat), BsOk bs l ∧ ds = [logD l, .lst (bs.map bD), nD w] ∧ r = .d (.bl (aloneB l bs w)) ∧ B' = B
theorem has_alone_at {T : Top} {f : Addr} {fd : FuncData} (bl : Bl T) (H : HasFn T 1 "setters_of" C_setters_of) (F : Fun T.K "alone_at" "alone_at" s_alone_at f fd) (hm : T.mg "alone_at" = some (.ref f)) : HasFn T 2 "alone_at" C_alone_at := by
  refine fn_ok F sc_alone_at hm (F.binds fun _ _ _ _ _ _ us hl => match us, hl with | [_, _, _], _ => rfl) (fun ds B r B' ⟨_, _, _, _, h, _⟩ => by rw [h]; rfl) fun ds B r B' ⟨l, bs, w, ok, h1, h2, h3⟩ => ?_
  subst h1 h2 h3
  have n8 := ok.n8
  refine exs_one (ex_ret (ev_any bl (ev_lcE (own := [("sale", 3)]) Sale.d .bl (fun s => decide (settersOf s bs = [w])) l (it_seq (by walk_at "nm") rfl) (by walk_at "blk") rfl (by omega) fun s hs => lcp0 (tg_name (i := 3) (by walk_at "st")) ?_)) ⟨rfl, rfl⟩)
  exact ev_cmp (c_eqL (g := blkG _ _) (xs := settersOf s bs) (ys := [w])) (EvR.fz (ct := .l ((settersOf s bs).map nD)) (ev_call H (by show 1 ≤ 1; omega) rfl (evs_cons (by walk_at "nm") (evs_cons (by walk_at "nm") evs_nil)) ⟨s, _, rfl, (ok.so _ hs).1, (ok.so _ hs).2, rfl, rfl⟩)) (ev_lst (evs_cons (by walk_at "nm") evs_nil))
def worthsF (l : List Sale) (bs : List (Int × Int)) : List (Int × Int) := bs.zipIdx.map fun p => (if aloneB l bs p.2 then p.1.2 else p.1.1, p.1.2)
def worthsR (folk : Nat) (top : Int) (l : List Sale) : Res := if canBe folk top l then .o (.l ((worthsF l (boundsOf folk top l)).map bD)) else .d .non
theorem enD_bs (bs : List (Int × Int)) : enD (bs.map bD) = bs.zipIdx.map fun p => .tup [nD p.2, bD p.1] := by
  unfold enD
  rw [List.zipIdx_map, List.map_map]
  rfl
abbrev s_worths : Stmt := topS 32
abbrev n_worths : List Str := ["folk", "top", "log", "some", "found", "who", "low", "high"]
theorem sc_worths : FnScope n_worths ["folk", "top", "log"] (defScope s_worths) := ⟨rfl, rfl, rfl, by decide +kernel, rfl, by decide +kernel, by decide +kernel⟩
def C_worths : Con := fun ds B r B' => ∃ (folk : Nat) (top : Int) (l : List Sale), LogOk folk top l ∧ ds = [nD folk, .int top, logD l] ∧ r = worthsR folk top l ∧ B' = B
theorem has_worths {T : Top} {f : Addr} {fd : FuncData} (bl : Bl T) (H1 : HasFn T 6 "look_at" C_look_at) (H2 : HasFn T 3 "can_be_so" C_can_be_so) (H3 : HasFn T 2 "bounds" C_bounds) (H4 : HasFn T 2 "alone_at" C_alone_at) (F : Fun T.K "worths" "worths" s_worths f fd) (hm : T.mg "worths" = some (.ref f)) : HasFn T 7 "worths" C_worths := by
  refine fn_ok F sc_worths hm (F.binds fun _ _ _ _ _ _ us hl => match us, hl with | [_, _, _], _ => rfl) (fun ds B r B' ⟨_, _, _, _, h, _⟩ => by rw [h]; rfl) fun ds B r B' ⟨folk, top, l, ok, h1, h2, h3⟩ => ?_
  subst h1 h2 h3
  have n8 := ok.n8
  have f8 := ok.f8
  have bok := bounds_ok ok
  refine exs_cons (ex_expr (ev_call H1 (by show 6 ≤ 6; omega) rfl (evs_cons (by walk_at "nm") (evs_cons (by walk_at "nm") (evs_cons (by walk_at "nm") evs_nil))) ⟨folk, top, l, ok, rfl, rfl, rfl⟩) ?_)
  refine exs_cons (ex_if (k := !canBe folk top l) (B1 := B') (ts_not (ts_val (ev_call H2 (by show 3 ≤ 6; omega) rfl (evs_cons (by walk_at "nm") (evs_cons (by walk_at "nm") (evs_cons (by walk_at "nm") evs_nil))) ⟨folk, top, l, ok, rfl, rfl, rfl⟩))) (fun hk => ?bad) fun hk => exs_nil ?good)
  case bad =>
    have e : worthsR folk top l = .d .non := by
      unfold worthsR
      rw [if_neg (by simpa using hk)]
    rw [e]
    exact exs_one (ex_ret ev_non ⟨rfl, rfl⟩)
  have e : worthsR folk top l = .o (.l ((worthsF l (boundsOf folk top l)).map bD)) := by
    unfold worthsR
    rw [if_pos (by simpa using hk)]
  rw [e]
  refine exs_cons (ex_set (i := 3) (x := .lst ((boundsOf folk top l).map bD)) (by walk_at "st") (EvR.fz (ct := .l ((boundsOf folk top l).map bD)) (ev_call H3 (by show 2 ≤ 6; omega) rfl (evs_cons (by walk_at "nm") (evs_cons (by walk_at "nm") (evs_cons (by walk_at "nm") evs_nil))) ⟨folk, top, l, by omega, by omega, rfl, rfl, rfl⟩)) ?_ (fun _ _ => rfl))
  refine exs_cons (ex_setR (i := 4) (r := .o (.l [])) (by walk_at "st") (evr_lst evs_nil) ?_ (fun _ _ => rfl))
  generalize boundsOf folk top l = bs at *
  have b8 := bok.b8
  let ρ1 (ws : List (Int × Int)) : Rho := ((startR n_worths [nD folk, .int top, logD l]).set 3 (.d (.lst (bs.map bD)))).set 4 (.o (.l (ws.map bD)))
  refine exs_cons (ex_for (B1 := B') (ds := bs.zipIdx.map fun p => .tup [nD p.2, bD p.1]) (by rw [← enD_bs]; exact it_enumL rfl bl.enumerate (by walk_at "nm")) (fun i ρ C => ρ = ρ1 ((bs.zipIdx.take i).map fun p => (if aloneB l bs p.2 then p.1.2 else p.1.1, p.1.2)) ∧ C = B') ⟨rfl, rfl⟩ (fun i d ρ' C hd ⟨g1, g2⟩ => ?_) fun ρ' C h => ?_)
  · obtain ⟨p, hx, rfl, hm, hi, ht⟩ := map_get hd
    subst g1 g2
    rw [ht, List.map_append]
    rw [List.length_zipIdx] at hi
    have hl : ((bs.zipIdx.take i).map fun p : (Int × Int) × Nat => (if aloneB l bs p.2 then p.1.2 else p.1.1, p.1.2)).length ≤ 1000000 := by
      rw [List.length_map, List.length_take, List.length_zipIdx]
      omega
    generalize ((bs.zipIdx.take i).map fun p : (Int × Int) × Nat => (if aloneB l bs p.2 then p.1.2 else p.1.1, p.1.2)) = ws at *
    refine ⟨_, _, tg_tup (tgs_cons (tg_name (i := 5) (by walk_at "st")) (tgs_cons (tg_tup (tgs_cons (tg_name (i := 6) (by walk_at "st")) (tgs_cons (tg_name (i := 7) (by walk_at "st")) tgs_nil))) tgs_nil)), ?_⟩
    refine exs_cons (ex_append (i := 4) (B1 := C) (y := bD (if aloneB l bs p.2 then p.1.2 else p.1.1, p.1.2)) rfl (by walk_at "vis") rfl (ev_tup (evs_cons (ev_if (k := aloneB l bs p.2) (B1 := C) (ts_val (ev_call H4 (by show 2 ≤ 6; omega) rfl (evs_cons (by walk_at "nm") (evs_cons (by walk_at "nm") (evs_cons (by walk_at "nm") evs_nil))) ⟨l, bs, p.2, bok, rfl, rfl, rfl⟩)) (fun hk => ?_) fun hk => ?_) (evs_cons (by walk_at "nm") evs_nil))) ?nx (by rw [List.length_map]; exact hl))
    · rw [if_pos hk]
      exact (by walk_at "nm")
    · rw [if_neg (by rw [hk]; exact Bool.false_ne_true)]
      exact (by walk_at "nm")
    case nx =>
      refine exs_fgt (is := [5, 6, 7]) (exs_nil ⟨?_, rfl⟩)
      show _ = ρ1 _
      dsimp only [ρ1]
      rw [List.map_append]
      rfl
  · obtain ⟨g1, g2⟩ := h
    subst g1 g2
    rw [List.length_map, List.take_length]
    exact exs_one (ex_retOwn (i := 4) rfl (by walk_at "vis") rfl ⟨rfl, rfl⟩)
abbrev s_look_at_sale : Stmt := topS 18
abbrev n_look_at_sale : List Str := ["log", "sale"]
theorem sc_look_at_sale : FnScope n_look_at_sale ["log", "sale"] (defScope s_look_at_sale) := ⟨rfl, rfl, rfl, by decide +kernel, rfl, by decide +kernel, by decide +kernel⟩
def C_look_at_sale : Con := fun ds B r B' => ∃ (l : List Sale) (k : Nat), k < l.length ∧ ds = [logD l, nD k] ∧ r = .d .non ∧ B' = B
theorem has_look_at_sale {T : Top} {f : Addr} {fd : FuncData} (bl : Bl T) (H : HasFn T 2 "is_within" C_is_within) (F : Fun T.K "look_at_sale" "look_at_sale" s_look_at_sale f fd) (hm : T.mg "look_at_sale" = some (.ref f)) : HasFn T 3 "look_at_sale" C_look_at_sale := by
  refine fn_ok F sc_look_at_sale hm (F.binds fun _ _ _ _ _ _ us hl => match us, hl with | [_, _], _ => rfl) (fun ds B r B' ⟨_, _, _, h, _⟩ => by rw [h]; rfl) fun ds B r B' ⟨l, k, hk, h1, h2, h3⟩ => ?_
  subst h1 h2 h3
  have e : inR (nD k) 0 (((l.map Sale.d).length : Nat) - 1) = true := inR_t (by omega) (by rw [List.length_map]; omega)
  refine exs_one (ex_skip (B1 := B') (ts_not (k := true) (ts_val ?_)) ⟨rfl, rfl⟩)
  rw [← e]
  exact ev_call H (by show 2 ≤ 2; omega) rfl (evs_cons (by walk_at "nm") (evs_cons ev_int (evs_cons (ev_bin b_sub (ev_len bl (by walk_at "nm") rfl) ev_int) evs_nil))) ⟨_, _, _, rfl, rfl, rfl, rfl⟩
def sureOf (l : List Sale) (bs : List (Int × Int)) (s : Sale) : List Nat := (settersOf s bs).filter fun w => decide (loOf bs w = hiOf bs w) || aloneB l bs w
def settersD (folk : Nat) (top : Int) (l : List Sale) (s : Sale) : D := if canBe folk top l then .tup [lotD (settersOf s (boundsOf folk top l)), lotD (sureOf l (boundsOf folk top l) s)] else .non
abbrev s_setters : Stmt := topS 33
abbrev n_setters : List Str := ["folk", "top", "log", "sale", "some", "can", "who"]
theorem sc_setters : FnScope n_setters ["folk", "top", "log", "sale"] (defScope s_setters) := ⟨rfl, rfl, rfl, by decide +kernel, rfl, by decide +kernel, by decide +kernel⟩
def C_setters : Con := fun ds B r B' => ∃ (folk : Nat) (top : Int) (l : List Sale) (k : Nat) (s : Sale), LogOk folk top l ∧ l[k]? = some s ∧ ds = [nD folk, .int top, logD l, nD k] ∧ r = .d (settersD folk top l s) ∧ B' = B
theorem has_setters {T : Top} {f : Addr} {fd : FuncData} (bl : Bl T) (H1 : HasFn T 6 "look_at" C_look_at) (H2 : HasFn T 3 "can_be_so" C_can_be_so) (H3 : HasFn T 2 "bounds" C_bounds) (H4 : HasFn T 2 "alone_at" C_alone_at) (H5 : HasFn T 3 "look_at_sale" C_look_at_sale) (H6 : HasFn T 1 "setters_of" C_setters_of) (F : Fun T.K "setters" "setters" s_setters f fd) (hm : T.mg "setters" = some (.ref f)) : HasFn T 7 "setters" C_setters := by
  refine fn_ok F sc_setters hm (F.binds fun _ _ _ _ _ _ us hl => match us, hl with | [_, _, _, _], _ => rfl) (fun ds B r B' ⟨_, _, _, _, _, _, _, h, _⟩ => by rw [h]; rfl) fun ds B r B' ⟨folk, top, l, k, s, ok, hs, h1, h2, h3⟩ => ?_
  subst h1 h2 h3
  have n8 := ok.n8
  have f8 := ok.f8
  have bok := bounds_ok ok
  have hkl := (List.getElem?_eq_some_iff.mp hs).1
  have hsm := List.mem_of_getElem? hs
  have hgd : (l.map Sale.d)[k]? = some s.d := by rw [List.getElem?_map, hs]; rfl
  refine exs_cons (ex_expr (ev_call H1 (by show 6 ≤ 6; omega) rfl (evs_cons (by walk_at "nm") (evs_cons (by walk_at "nm") (evs_cons (by walk_at "nm") evs_nil))) ⟨folk, top, l, ok, rfl, rfl, rfl⟩) ?_)
  refine exs_cons (ex_expr (ev_call H5 (by show 3 ≤ 6; omega) rfl (evs_cons (by walk_at "nm") (evs_cons (by walk_at "nm") evs_nil)) ⟨l, k, hkl, rfl, rfl, rfl⟩) ?_)
  refine exs_cons (ex_if (k := !canBe folk top l) (B1 := B') (ts_not (ts_val (ev_call H2 (by show 3 ≤ 6; omega) rfl (evs_cons (by walk_at "nm") (evs_cons (by walk_at "nm") (evs_cons (by walk_at "nm") evs_nil))) ⟨folk, top, l, ok, rfl, rfl, rfl⟩))) (fun hk => ?bad) fun hk => exs_nil ?good)
  case bad =>
    have e : settersD folk top l s = .non := by
      unfold settersD
      rw [if_neg (by simpa using hk)]
    rw [e]
    exact exs_one (ex_ret ev_non ⟨rfl, rfl⟩)
  have e : settersD folk top l s = .tup [lotD (settersOf s (boundsOf folk top l)), lotD (sureOf l (boundsOf folk top l) s)] := by
    unfold settersD
    rw [if_pos (by simpa using hk)]
  rw [e]
  refine exs_cons (ex_set (i := 4) (x := .lst ((boundsOf folk top l).map bD)) (by walk_at "st") (EvR.fz (ct := .l ((boundsOf folk top l).map bD)) (ev_call H3 (by show 2 ≤ 6; omega) rfl (evs_cons (by walk_at "nm") (evs_cons (by walk_at "nm") (evs_cons (by walk_at "nm") evs_nil))) ⟨folk, top, l, by omega, by omega, rfl, rfl, rfl⟩)) ?_ (fun _ _ => rfl))
  generalize boundsOf folk top l = bs at *
  have b8 := bok.b8
  refine exs_cons (ex_set (i := 5) (x := .lst ((settersOf s bs).map nD)) (by walk_at "st") (EvR.fz (ct := .l ((settersOf s bs).map nD)) (ev_call H6 (by show 1 ≤ 6; omega) rfl (evs_cons (ev_ixN (i := k) (by walk_at "nm") (by walk_at "nm") rfl hgd) (evs_cons (by walk_at "nm") evs_nil)) ⟨s, bs, rfl, (bok.so _ hsm).1, (bok.so _ hsm).2, rfl, rfl⟩)) ?_ (fun _ _ => rfl))
  have hcl : (settersOf s bs).length ≤ 1000 := setters_len (bok.so _ hsm).2
  have hcm : ∀ w ∈ settersOf s bs, w < bs.length := fun w hw => (bok.so s hsm).1 w (List.mem_filter.mp hw).1
  have em : (((settersOf s bs).filter fun w => decide (loOf bs w = hiOf bs w) || aloneB l bs w).map id) = sureOf l bs s := List.map_id _
  refine exs_one (ex_ret (ev_tup (evs_cons (ev_tuple bl (x := .lst ((settersOf s bs).map nD)) (by walk_at "nm") rfl) (evs_cons (ev_tuple bl (x := .lst ((sureOf l bs s).map nD)) (by rw [← em]; exact ev_lcF (own := [("who", 6)]) nD nD (fun w => decide (loOf bs w = hiOf bs w) || aloneB l bs w) id (settersOf s bs) (it_seq (by walk_at "nm") rfl) (by walk_at "blk") rfl (by omega) fun w hw => lcp1 (tg_name (i := 6) (by walk_at "st")) (Tw.ts (tw_orP (ts_cmp c_eqI (ev_ixN (i := 0) (ev_ixN (i := w) (by walk_at "nm") (by walk_at "nm") rfl (bs_get (hcm w hw))) ev_int rfl rfl) (ev_ixN (i := 1) (ev_ixN (i := w) (by walk_at "nm") (by walk_at "nm") rfl (bs_get (hcm w hw))) ev_int rfl rfl)) fun _ => tw_or1 (ts_val (ev_call H4 (by show 2 ≤ 6; omega) rfl (evs_cons (by walk_at "nm") (evs_cons (by walk_at "nm") (evs_cons (by walk_at "nm") evs_nil))) ⟨l, bs, w, bok, rfl, rfl, rfl⟩)))) fun _ => (by walk_at "nm")) rfl) evs_nil))) ⟨rfl, rfl⟩)
def narrowB (bs : List (Int × Int)) (w : Nat) : List (Int × Int) := bs.set w (hiOf bs w, hiOf bs w)
def waysSet (folk : Nat) (top : Int) (l : List Sale) (s : Sale) (w : Nat) : Int := if !decide (hiOf (boundsOf folk top l) w = s.price) || !canBe folk top l then 0 else waysF folk l (narrowB (boundsOf folk top l) w)
theorem narrow_ok {bs : List (Int × Int)} {l : List Sale} {w : Nat} (h : BsOk bs l) : BsOk (narrowB bs w) l := ⟨by unfold narrowB; rw [List.length_set]; exact h.b8, h.n8, fun s hs => ⟨fun v hv => by unfold narrowB; rw [List.length_set]; exact (h.so s hs).1 v hv, (h.so s hs).2⟩⟩
theorem narrow_bd {bs : List (Int × Int)} {w : Nat} (hw : w < bs.length) (h : ∀ b ∈ bs, 0 ≤ b.1 ∧ b.1 ≤ 1000 ∧ 0 ≤ b.2 ∧ b.2 ≤ 1000) : ∀ b ∈ narrowB bs w, 0 ≤ b.1 ∧ b.1 ≤ 1000 ∧ 0 ≤ b.2 ∧ b.2 ≤ 1000 := fun b hb => by
  rcases List.mem_or_eq_of_mem_set hb with hb | rfl
  · exact h b hb
  · have : hiOf bs w = bs[w].2 := by
      unfold hiOf
      rw [List.getD_eq_getElem?_getD, List.getElem?_eq_getElem hw]
      rfl
    have h2 := h bs[w] (List.getElem_mem hw)
    show 0 ≤ hiOf bs w ∧ hiOf bs w ≤ 1000 ∧ 0 ≤ hiOf bs w ∧ hiOf bs w ≤ 1000
    omega
abbrev s_ways_set : Stmt := topS 34
abbrev n_ways_set : List Str := ["folk", "top", "log", "sale", "who", "some"]
theorem sc_ways_set : FnScope n_ways_set ["folk", "top", "log", "sale", "who"] (defScope s_ways_set) := ⟨rfl, rfl, rfl, by decide +kernel, rfl, by decide +kernel, by decide +kernel⟩
def C_ways_set : Con := fun ds B r B' => ∃ (folk : Nat) (top : Int) (l : List Sale) (k : Nat) (s : Sale) (w : Nat), LogOk folk top l ∧ l[k]? = some s ∧ w ∈ s.others ∧ ds = [nD folk, .int top, logD l, nD k, nD w] ∧ r = .d (.int (waysSet folk top l s w)) ∧ B' = B
theorem has_ways_set {T : Top} {f : Addr} {fd : FuncData} (bl : Bl T) (H0 : HasFn T 2 "is_within" C_is_within) (H1 : HasFn T 6 "look_at" C_look_at) (H2 : HasFn T 3 "can_be_so" C_can_be_so) (H3 : HasFn T 2 "bounds" C_bounds) (H4 : HasFn T 3 "ways" C_ways) (H5 : HasFn T 3 "look_at_sale" C_look_at_sale) (F : Fun T.K "ways_set" "ways_set" s_ways_set f fd) (hm : T.mg "ways_set" = some (.ref f)) : HasFn T 7 "ways_set" C_ways_set := by
  refine fn_ok F sc_ways_set hm (F.binds fun _ _ _ _ _ _ us hl => match us, hl with | [_, _, _, _, _], _ => rfl) (fun ds B r B' ⟨_, _, _, _, _, _, _, _, _, h, _⟩ => by rw [h]; rfl) fun ds B r B' ⟨folk, top, l, k, s, w, ok, hs, hw, h1, h2, h3⟩ => ?_
  subst h1 h2 h3
  have n8 := ok.n8
  have f8 := ok.f8
  have bok := bounds_ok ok
  have bbd := bounds_bd ok
  have hkl := (List.getElem?_eq_some_iff.mp hs).1
  have hsm := List.mem_of_getElem? hs
  have hgd : (l.map Sale.d)[k]? = some s.d := by rw [List.getElem?_map, hs]; rfl
  have hwf := (ok.ok s hsm).lt w hw
  have e1 : inR (nD w) 0 ((folk : Nat) - 1) = true := inR_t (by omega) (by omega)
  have e2 : (!decide (w ∈ s.others)) = false := by simp [hw]
  refine exs_cons (ex_expr (ev_call H1 (by show 6 ≤ 6; omega) rfl (evs_cons (by walk_at "nm") (evs_cons (by walk_at "nm") (evs_cons (by walk_at "nm") evs_nil))) ⟨folk, top, l, ok, rfl, rfl, rfl⟩) ?_)
  refine exs_cons (ex_expr (ev_call H5 (by show 3 ≤ 6; omega) rfl (evs_cons (by walk_at "nm") (evs_cons (by walk_at "nm") evs_nil)) ⟨l, k, hkl, rfl, rfl, rfl⟩) ?_)
  refine exs_cons (ex_skip (B1 := B') (Tw.ts (tw_orF (ts_not (k := true) (ts_val ?a)) (tw_or1 (Ts.to (ts_cmp (c_notInN (i := w) (ns := s.others) rfl) (by walk_at "nm") (ev_ixN (i := 2) (ev_ixN (i := k) (by walk_at "nm") (by walk_at "nm") rfl hgd) ev_int rfl rfl)) e2)))) ?_)
  · rw [← e1]
    exact ev_call H0 (by show 2 ≤ 6; omega) rfl (evs_cons (by walk_at "nm") (evs_cons ev_int (evs_cons (ev_bin b_sub (by walk_at "nm") ev_int) evs_nil))) ⟨_, _, _, rfl, rfl, rfl, rfl⟩
  refine exs_cons (ex_setR (i := 5) (r := .o (.l ((boundsOf folk top l).map bD))) (by walk_at "st") (ev_call H3 (by show 2 ≤ 6; omega) rfl (evs_cons (by walk_at "nm") (evs_cons (by walk_at "nm") (evs_cons (by walk_at "nm") evs_nil))) ⟨folk, top, l, by omega, by omega, rfl, rfl, rfl⟩) ?_ (fun _ _ => rfl))
  have hbl : (boundsOf folk top l).length = folk := bounds_len
  unfold waysSet
  generalize boundsOf folk top l = bs at *
  have hwb : w < bs.length := by omega
  refine exs_cons (ex_if (k := !decide (hiOf bs w = s.price) || !canBe folk top l) (B1 := B') (ts_borrow (Tw.ts (tw_orP (ts_cmp (c_neI (i := hiOf bs w) (j := s.price)) (ev_ixN (i := 1) (ev_ixN (i := w) (x := .lst (bs.map bD)) (by walk_at "nm") (by walk_at "nm") rfl (bs_get hwb)) ev_int rfl rfl) (ev_ixN (i := 1) (ev_ixN (i := k) (by walk_at "nm") (by walk_at "nm") rfl hgd) ev_int rfl rfl)) fun _ => tw_or1 (ts_not (ts_val (ev_call H2 (by show 3 ≤ 6; omega) rfl (evs_cons (by walk_at "nm") (evs_cons (by walk_at "nm") (evs_cons (by walk_at "nm") evs_nil))) ⟨folk, top, l, ok, rfl, rfl, rfl⟩)))))) (fun hk => ?bad) fun hk => exs_nil ?good)
  case bad =>
    rw [if_pos hk]
    exact exs_one (ex_ret ev_int ⟨rfl, rfl⟩)
  rw [if_neg (by rw [hk]; exact Bool.false_ne_true)]
  have ev1 : ∀ {pos p2 p3 p4 : Pos} {j1 : Option Str}, True := fun {_ _ _ _ _} => trivial
  have enar : (bs.map bD).set w (bD (hiOf bs w, hiOf bs w)) = (narrowB bs w).map bD := by
    unfold narrowB
    rw [List.map_set]
  refine exs_cons (ex_setIx (i := 5) (kk := w) (ds := bs.map bD) (y := bD (hiOf bs w, hiOf bs w)) (B1 := B') (B2 := B') rfl (by walk_at "vis") rfl (ev_tup (evs_cons (ev_borrowI (ev_ixN (i := 1) (ev_ixN (i := w) (x := .lst (bs.map bD)) (by walk_at "nm") (by walk_at "nm") rfl (bs_get hwb)) ev_int rfl rfl)) (evs_cons (ev_borrowI (ev_ixN (i := 1) (ev_ixN (i := w) (x := .lst (bs.map bD)) (by walk_at "nm") (by walk_at "nm") rfl (bs_get hwb)) ev_int rfl rfl)) evs_nil))) (by walk_at "nm") (by rw [List.length_map]; exact hwb) ?_)
  rw [enar]
  refine exs_fz (i := 5) rfl (exs_one (ex_ret (ev_call H4 (by show 3 ≤ 6; omega) rfl (evs_cons (by walk_at "nm") (evs_cons (by walk_at "nm") (evs_cons (by walk_at "nm") (evs_cons (EvR.to (y := .lst ((narrowB bs w).map bD)) (by walk_at "nm") rfl) evs_nil)))) ⟨folk, top, l, narrowB bs w, narrow_ok bok, by unfold narrowB; rw [List.length_set]; exact hbl, narrow_bd hwb bbd, rfl, rfl, rfl⟩) ⟨rfl, rfl⟩))
def cutL (l : List Sale) (k : Nat) : List Sale := l.take k ++ l.drop (k + 1)
theorem cut_ok {folk : Nat} {top : Int} {l : List Sale} {k : Nat} (ok : LogOk folk top l) : LogOk folk top (cutL l k) := ⟨ok.f2, ok.f8, ok.t1, ok.tt, by
  have := ok.n8
  unfold cutL
  rw [List.length_append, List.length_take, List.length_drop]
  omega, fun s hs => by
    rcases List.mem_append.mp hs with h | h
    · exact ok.ok s (List.mem_of_mem_take h)
    · exact ok.ok s (List.mem_of_mem_drop h)⟩
theorem ev_cutL {g : G} {ρ : Rho} {B : Bag} {a1 a3 e1 e2 : Expr} {p1 p2 p3 p4 p5 : Pos} {l : List Sale} {k : Nat} (hl : l.length ≤ 1000) (ha : Ev g a1 ρ B (logD l) B) (hk : Ev g e1 ρ B (nD k) B) (hb : Ev g a3 ρ B (logD l) B) (hk1 : Ev g e2 ρ B (nD (k + 1)) B) :
    Ev g (.BinOp (.Subscript a1 (.Slice none (some e1) none p1) p2) .Add (.Subscript a3 (.Slice (some e2) none none p3) p4) p5) ρ B (logD (cutL l k)) B := by
  have e : logD (cutL l k) = .tup (cutD (l.map Sale.d) none (some (k : Int)) ++ cutD (l.map Sale.d) (some ((k + 1 : Nat) : Int)) none) := by
    unfold logD cutL
    rw [cutD_to, cutD_from, List.map_append, List.map_take, List.map_drop]
  rw [e]
  refine ev_catT (ev_slT ha po_no (po_so hk)) (ev_slT hb (po_so hk1) po_no) ?_
  rw [cutD_to, cutD_from, List.length_take, List.length_drop, List.length_map]
  omega
/-! ### gains and fewest_setters where the log can't be -/
def C_gainsN : Con := fun ds B r B' => ∃ (folk : Nat) (top : Int) (l : List Sale), LogOk folk top l ∧ canBe folk top l = false ∧ ds = [nD folk, .int top, logD l] ∧ r = .d .non ∧ B' = B
theorem has_gainsN {T : Top} {f : Addr} {fd : FuncData} (H1 : HasFn T 6 "look_at" C_look_at) (H2 : HasFn T 3 "can_be_so" C_can_be_so) (F : Fun T.K "gains" "gains" s_gains f fd) (hm : T.mg "gains" = some (.ref f)) : HasFn T 7 "gains" C_gainsN := by
  refine fn_ok F sc_gains hm (F.binds fun _ _ _ _ _ _ us hl => match us, hl with | [_, _, _], _ => rfl) (fun ds B r B' ⟨_, _, _, _, _, h, _⟩ => by rw [h]; rfl) fun ds B r B' ⟨folk, top, l, ok, cb, h1, h2, h3⟩ => ?_
  subst h1 h2 h3
  refine exs_cons (ex_expr (ev_call H1 (by show 6 ≤ 6; omega) rfl (evs_cons (by walk_at "nm") (evs_cons (by walk_at "nm") (evs_cons (by walk_at "nm") evs_nil))) ⟨folk, top, l, ok, rfl, rfl, rfl⟩) ?_)
  refine exs_cons (ex_then (B1 := B') (ts_not (k := false) (ts_val (by rw [← cb]; exact ev_call H2 (by show 3 ≤ 6; omega) rfl (evs_cons (by walk_at "nm") (evs_cons (by walk_at "nm") (evs_cons (by walk_at "nm") evs_nil))) ⟨folk, top, l, ok, rfl, rfl, rfl⟩))) ?_)
  exact exs_one (ex_ret ev_non ⟨rfl, rfl⟩)
/-! ### counting the worths -/
def cntI {α : Type} (P : α → Bool) (xs : List α) : Int := (xs.map fun x => if P x then (1 : Int) else 0).sum
theorem cntI_len {α : Type} (P : α → Bool) : ∀ xs : List α, ((xs.filter P).length : Int) = cntI P xs
  | [] => rfl
  | x :: xs => by
    have h := cntI_len P xs
    unfold cntI at h ⊢
    rw [List.map_cons, List.sum_cons]
    cases hp : P x with
    | true =>
      rw [List.filter_cons_of_pos hp, List.length_cons, if_pos rfl]
      omega
    | false =>
      rw [List.filter_cons_of_neg (by rw [hp]; exact Bool.false_ne_true), if_neg Bool.false_ne_true]
      omega
theorem cntI_app {α : Type} (P : α → Bool) (xs ys : List α) : cntI P (xs ++ ys) = cntI P xs + cntI P ys := by
  unfold cntI
  rw [List.map_append, List.sum_append]
theorem cntI_flat {α β : Type} (P : β → Bool) (f : α → List β) : ∀ xs : List α, cntI P (xs.flatMap f) = (xs.map fun x => cntI P (f x)).sum
  | [] => rfl
  | x :: xs => by
    rw [List.flatMap_cons, cntI_app, cntI_flat P f xs, List.map_cons, List.sum_cons]
def ins (p : Nat) (S : Nat → Bool) : Nat → Bool := fun x => decide (x = p) || S x
theorem ins_comm (p q : Nat) (S : Nat → Bool) : ins p (ins q S) = ins q (ins p S) := by
  funext x
  unfold ins
  rw [← Bool.or_assoc, ← Bool.or_assoc, Bool.or_comm (decide (x = p))]
def W (d : Nat → Int) : List Nat → ((Nat → Bool) → Bool) → Int
  | [], Q => if Q (fun _ => false) then 1 else 0
  | p :: ps, Q => W d ps (fun S => Q (ins p S)) + d p * W d ps Q
theorem W_perm (d : Nat → Int) {ps qs : List Nat} (h : ps.Perm qs) : ∀ Q, W d ps Q = W d qs Q := by
  induction h with
  | nil => exact fun _ => rfl
  | cons x _ ih =>
    intro Q
    unfold W
    rw [ih, ih]
  | swap x y l =>
    intro Q
    have e : (fun S => Q (ins y (ins x S))) = fun S => Q (ins x (ins y S)) := by
      funext S
      rw [ins_comm]
    show W d l (fun S => Q (ins y (ins x S))) + d x * W d l (fun S => Q (ins y S)) + d y * (W d l (fun S => Q (ins x S)) + d x * W d l Q) = W d l (fun S => Q (ins x (ins y S))) + d y * W d l (fun S => Q (ins x S)) + d x * (W d l (fun S => Q (ins y S)) + d y * W d l Q)
    rw [e, Int.mul_add, Int.mul_add, ← Int.mul_assoc, ← Int.mul_assoc, Int.mul_comm (d y) (d x)]
    omega
  | trans _ _ ih1 ih2 => exact fun Q => (ih1 Q).trans (ih2 Q)
def Free (Q : (Nat → Bool) → Bool) (qs : List Nat) : Prop := ∀ q ∈ qs, ∀ S, Q (ins q S) = Q S
theorem W_const (d : Nat → Int) : ∀ (qs : List Nat) (Q1 Q2 : (Nat → Bool) → Bool), Free Q1 qs → W d qs (fun S => Q1 S && Q2 S) = (if Q1 (fun _ => false) then 1 else 0) * W d qs Q2
  | [], Q1, Q2, _ => by
    show (if (Q1 (fun _ => false) && Q2 (fun _ => false)) = true then (1 : Int) else 0) = (if Q1 (fun _ => false) then 1 else 0) * (if Q2 (fun _ => false) then 1 else 0)
    cases Q1 (fun _ => false) <;> cases Q2 (fun _ => false) <;> rfl
  | q :: qs, Q1, Q2, h => by
    have hq := h q List.mem_cons_self
    have ht : Free Q1 qs := fun x hx => h x (List.mem_cons_of_mem _ hx)
    have e : (fun S => Q1 (ins q S) && Q2 (ins q S)) = fun S => Q1 S && Q2 (ins q S) := by
      funext S
      rw [hq]
    show W d qs (fun S => Q1 (ins q S) && Q2 (ins q S)) + d q * W d qs (fun S => Q1 S && Q2 S) = _ * (W d qs (fun S => Q2 (ins q S)) + d q * W d qs Q2)
    rw [e, W_const d qs Q1 (fun S => Q2 (ins q S)) ht, W_const d qs Q1 Q2 ht, Int.mul_add, ← Int.mul_assoc, ← Int.mul_assoc, Int.mul_comm (d q)]
theorem W_mul (d : Nat → Int) : ∀ (ps qs : List Nat) (Q1 Q2 : (Nat → Bool) → Bool), Free Q1 qs → Free Q2 ps → W d (ps ++ qs) (fun S => Q1 S && Q2 S) = W d ps Q1 * W d qs Q2
  | [], qs, Q1, Q2, h1, _ => W_const d qs Q1 Q2 h1
  | p :: ps, qs, Q1, Q2, h1, h2 => by
    have hp := h2 p List.mem_cons_self
    have ht : Free Q2 ps := fun x hx => h2 x (List.mem_cons_of_mem _ hx)
    have h1' : Free (fun S => Q1 (ins p S)) qs := fun q hq S => by
      show Q1 (ins p (ins q S)) = Q1 (ins p S)
      rw [ins_comm, h1 q hq]
    have e : (fun S => Q1 (ins p S) && Q2 (ins p S)) = fun S => Q1 (ins p S) && Q2 S := by
      funext S
      rw [hp]
    show W d (ps ++ qs) (fun S => Q1 (ins p S) && Q2 (ins p S)) + d p * W d (ps ++ qs) (fun S => Q1 S && Q2 S) = (W d ps (fun S => Q1 (ins p S)) + d p * W d ps Q1) * W d qs Q2
    rw [e, W_mul d ps qs _ _ h1' ht, W_mul d ps qs _ _ h1 ht, Int.add_mul, Int.mul_assoc]
def prodL (xs : List Int) : Int := xs.foldr (· * ·) 1
theorem foldl_prod {α : Type} (f : α → Int) : ∀ (xs : List α) (a : Int), xs.foldl (fun a x => a * f x) a = a * prodL (xs.map f)
  | [], a => (Int.mul_one a).symm
  | x :: xs, a => by
    rw [List.foldl_cons, foldl_prod f xs]
    show a * f x * prodL (xs.map f) = a * (f x * prodL (xs.map f))
    rw [Int.mul_assoc]
theorem W_true (d : Nat → Int) : ∀ ps : List Nat, W d ps (fun _ => true) = prodL (ps.map fun p => d p + 1)
  | [] => rfl
  | p :: ps => by
    show W d ps (fun _ => true) + d p * W d ps (fun _ => true) = (d p + 1) * prodL (ps.map fun p => d p + 1)
    rw [W_true d ps, Int.add_mul, Int.one_mul]
    omega
/-- a product of groups and the rest -/
theorem W_groups (d : Nat → Int) (rest : List Nat) (grp : Int → List Nat) (Qp : Int → (Nat → Bool) → Bool) (hfree : ∀ p q, q ∉ grp p → ∀ S, Qp p (ins q S) = Qp p S) : ∀ ps : List Int, ps.Nodup → (∀ p ∈ ps, ∀ p' ∈ ps, p ≠ p' → ∀ w ∈ grp p, w ∉ grp p') → (∀ p ∈ ps, ∀ w ∈ rest, w ∉ grp p) →
    W d (ps.flatMap grp ++ rest) (fun S => ps.all fun p => Qp p S) = prodL (ps.map fun p => W d (grp p) (Qp p)) * prodL (rest.map fun p => d p + 1)
  | [], _, _, _ => by
    show W d rest (fun _ => true) = 1 * _
    rw [W_true, Int.one_mul]
  | p :: ps, nd, hd, hr => by
    obtain ⟨nd1, nd2⟩ := List.nodup_cons.mp nd
    have ih := W_groups d rest grp Qp hfree ps nd2 (fun a ha b hb => hd a (List.mem_cons_of_mem _ ha) b (List.mem_cons_of_mem _ hb)) fun a ha => hr a (List.mem_cons_of_mem _ ha)
    rw [List.flatMap_cons, List.append_assoc]
    show W d (grp p ++ (ps.flatMap grp ++ rest)) (fun S => Qp p S && ps.all fun p => Qp p S) = (W d (grp p) (Qp p) * prodL (ps.map fun p => W d (grp p) (Qp p))) * _
    rw [W_mul d _ _ (Qp p) (fun S => ps.all fun p => Qp p S) ?_ ?_, ih, Int.mul_assoc]
    · intro q hq S
      refine hfree p q ?_ S
      rcases List.mem_append.mp hq with hq | hq
      · obtain ⟨p', hp', hq'⟩ := List.mem_flatMap.mp hq
        exact fun z => hd p List.mem_cons_self p' (List.mem_cons_of_mem _ hp') (fun e => nd1 (e ▸ hp')) q z hq'
      · exact fun z => hr p List.mem_cons_self q hq z
    · intro q hq S
      have e : ∀ p' ∈ ps, Qp p' (ins q S) = Qp p' S := fun p' hp' => hfree p' q (hd p List.mem_cons_self p' (List.mem_cons_of_mem _ hp') (fun e => nd1 (e ▸ hp')) q hq) S
      show (ps.all fun p => Qp p (ins q S)) = ps.all fun p => Qp p S
      rw [Bool.eq_iff_iff, List.all_eq_true, List.all_eq_true]
      exact ⟨fun h p' hp' => by rw [← e p' hp']; exact h p' hp', fun h p' hp' => by rw [e p' hp']; exact h p' hp'⟩
/-! the sum over the lots -/
def memB (lot : List Nat) : Nat → Bool := fun x => decide (x ∈ lot)
theorem part_fold {bs : List (Int × Int)} {lot : List Nat} (xs : List Nat) : ∀ a, xs.foldl (partF bs lot) a = a * xs.foldl (partF bs lot) 1 := fun a => by
  have h := foldl_prod (fun w => if w ∈ lot then 1 else spanOf bs w) xs
  have e : (partF bs lot) = fun a w => a * (if w ∈ lot then 1 else spanOf bs w) := rfl
  rw [e, h a, h 1, Int.one_mul]
theorem part_congr {bs : List (Int × Int)} {lot lot' : List Nat} : ∀ (xs : List Nat) (a : Int), (∀ w ∈ xs, (w ∈ lot ↔ w ∈ lot')) → xs.foldl (partF bs lot) a = xs.foldl (partF bs lot') a
  | [], _, _ => rfl
  | x :: xs, a, h => by
    have e : partF bs lot a x = partF bs lot' a x := by
      unfold partF
      by_cases hx : x ∈ lot
      · rw [if_pos hx, if_pos ((h x List.mem_cons_self).mp hx)]
      · rw [if_neg hx, if_neg fun z => hx ((h x List.mem_cons_self).mpr z)]
    rw [List.foldl_cons, List.foldl_cons, e]
    exact part_congr xs _ fun w hw => h w (List.mem_cons_of_mem _ hw)
def lotSum (bs : List (Int × Int)) (grp : List Nat) (Q : (Nat → Bool) → Bool) : Int := ((lotsOf grp).map fun lot => if Q (memB lot) then partOf bs grp lot else 0).sum
theorem memB_snoc (lot : List Nat) (x : Nat) : memB (lot ++ [x]) = ins x (memB lot) := by
  funext y
  unfold memB ins
  rw [Bool.eq_iff_iff]
  simp
  exact Or.comm
theorem sum_mulR {α : Type} (f : α → Int) (c : Int) : ∀ xs : List α, (xs.map fun x => f x * c).sum = (xs.map f).sum * c
  | [] => by simp
  | x :: xs => by
    rw [List.map_cons, List.sum_cons, sum_mulR f c xs, List.map_cons, List.sum_cons, Int.add_mul]
theorem lotSum_W (bs : List (Int × Int)) (grp : List Nat) : grp.Nodup → ∀ Q, W (spanOf bs) grp Q = lotSum bs grp Q := by
  refine rev_ind (P := fun grp => grp.Nodup → ∀ Q, W (spanOf bs) grp Q = lotSum bs grp Q) (fun _ Q => ?_) (fun xs x ih nd Q => ?_) grp
  · unfold lotSum
    have e : memB [] = fun _ => false := by funext y; unfold memB; simp
    show (if Q (fun _ => false) then (1 : Int) else 0) = ([[]].map fun lot => if Q (memB lot) then partOf bs [] lot else 0).sum
    rw [List.map_cons, List.map_nil, List.sum_cons, List.sum_nil, Int.add_zero, e]
    rfl
  · have nd1 : xs.Nodup := (List.nodup_append.mp nd).1
    have hx : x ∉ xs := fun z => (List.nodup_append.mp nd).2.2 x z x List.mem_cons_self rfl
    rw [W_perm (spanOf bs) List.perm_append_comm]
    show W (spanOf bs) xs (fun S => Q (ins x S)) + spanOf bs x * W (spanOf bs) xs Q = _
    rw [ih nd1, ih nd1]
    unfold lotSum
    rw [lotsOf_snoc, List.map_append, List.sum_append, List.map_map, Int.add_comm, Int.mul_comm, ← sum_mulR]
    congr 1
    · refine congrArg List.sum (List.map_congr_left fun lot hl => ?_)
      have hs := (lotsOf_mem _ _).mp hl
      have hxl : x ∉ lot := fun z => hx (hs.subset z)
      have e : partOf bs (xs ++ [x]) lot = partOf bs xs lot * spanOf bs x := by
        unfold partOf
        rw [List.foldl_append]
        show partF bs lot _ x = _
        unfold partF
        rw [if_neg hxl]
      rw [e]
      split
      · rfl
      · exact Int.zero_mul _
    · refine congrArg List.sum (List.map_congr_left fun lot hl => ?_)
      have hs := (lotsOf_mem _ _).mp hl
      have e : partOf bs (xs ++ [x]) (lot ++ [x]) = partOf bs xs lot := by
        unfold partOf
        rw [List.foldl_append]
        show partF bs (lot ++ [x]) _ x = _
        unfold partF
        rw [if_pos (by simp), Int.mul_one]
        refine part_congr xs 1 fun w hw => ?_
        rw [List.mem_append, List.mem_singleton]
        exact ⟨fun h => h.resolve_right fun z => hx (z ▸ hw), .inl⟩
      show _ = if Q (memB (lot ++ [x])) then partOf bs (xs ++ [x]) (lot ++ [x]) else 0
      rw [e, memB_snoc]
/-! the worths, one person after the other -/
theorem cnt_rng (lo hi A B : Int) (h1 : 1 ≤ lo) (h2 : lo ≤ hi) : ∀ top : Nat, ((rng top).map fun x => if lo ≤ x ∧ x ≤ hi then (if x = hi then A else B) else 0).sum = if (top : Int) < lo then 0 else if (top : Int) < hi then ((top : Int) - lo + 1) * B else A + (hi - lo) * B
  | 0 => by
    rw [if_pos (by omega)]
    rfl
  | t + 1 => by
    have ih := cnt_rng lo hi A B h1 h2 t
    have e : rng (t + 1) = rng t ++ [1 + (t : Int)] := by
      unfold rng
      rw [List.range_succ, List.map_append]
      rfl
    rw [e, List.map_append, List.sum_append, ih]
    simp only [List.map_cons, List.map_nil, List.sum_cons, List.sum_nil, Int.add_zero]
    have ec : ((t + 1 : Nat) : Int) = (t : Int) + 1 := by omega
    rw [ec]
    by_cases a1 : (t : Int) + 1 < lo
    · rw [if_pos (by omega), if_pos a1, if_neg (by omega)]
      rfl
    · rw [if_neg a1]
      by_cases a2 : (t : Int) < lo
      · rw [if_pos a2]
        have e1 : (1 : Int) + t = lo := by omega
        by_cases a3 : (t : Int) + 1 < hi
        · rw [if_pos (by omega), if_neg (by omega), if_pos a3, show (t : Int) + 1 - lo + 1 = 1 by omega]
          omega
        · rw [if_pos (by omega), if_pos (by omega), if_neg a3, show hi - lo = 0 by omega]
          omega
      · rw [if_neg a2]
        by_cases a3 : (t : Int) + 1 < hi
        · rw [if_pos (by omega), if_pos (by omega), if_neg (by omega), if_pos a3, show (t : Int) + 1 - lo + 1 = ((t : Int) - lo + 1) + 1 by omega, Int.add_mul ((t : Int) - lo + 1) 1, Int.one_mul]
        · rw [if_neg a3]
          by_cases a4 : (t : Int) < hi
          · rw [if_pos a4, if_pos (by omega), if_pos (by omega), show (t : Int) - lo + 1 = hi - lo by omega]
            omega
          · rw [if_neg a4, if_neg (by omega)]
            omega
def boxB (bs : List (Int × Int)) (n : Nat) (ws : List Int) : Bool := (List.range n).all fun w => decide (loOf bs w ≤ wAt ws w) && decide (wAt ws w ≤ hiOf bs w)
def patB (bs : List (Int × Int)) (n : Nat) (ws : List Int) : Nat → Bool := fun x => decide (x < n) && decide (wAt ws x = hiOf bs x)
theorem wAt_app {one : List Int} {x : Int} {w : Nat} (h : w < one.length) : wAt (one ++ [x]) w = wAt one w := by
  unfold wAt
  rw [List.getD_eq_getElem?_getD, List.getElem?_append_left h, ← List.getD_eq_getElem?_getD]
theorem wAt_last {one : List Int} {x : Int} {n : Nat} (h : one.length = n) : wAt (one ++ [x]) n = x := by
  unfold wAt
  rw [List.getD_eq_getElem?_getD, List.getElem?_append_right (by omega), h, Nat.sub_self]
  rfl
theorem box_app {bs : List (Int × Int)} {n : Nat} {one : List Int} {x : Int} (h : one.length = n) : boxB bs (n + 1) (one ++ [x]) = (boxB bs n one && (decide (loOf bs n ≤ x) && decide (x ≤ hiOf bs n))) := by
  unfold boxB
  rw [List.range_succ, List.all_append]
  congr 1
  · rw [Bool.eq_iff_iff, List.all_eq_true, List.all_eq_true]
    refine forall_congr' fun w => forall_congr' fun hw => ?_
    rw [wAt_app (by rw [h]; exact List.mem_range.mp hw)]
  · rw [List.all_cons, List.all_nil, Bool.and_true, wAt_last h]
theorem pat_app {bs : List (Int × Int)} {n : Nat} {one : List Int} {x : Int} (h : one.length = n) : patB bs (n + 1) (one ++ [x]) = if x = hiOf bs n then ins n (patB bs n one) else patB bs n one := by
  have e : ∀ y, patB bs (n + 1) (one ++ [x]) y = if x = hiOf bs n then ins n (patB bs n one) y else patB bs n one y := fun y => by
    unfold patB ins
    dsimp only
    by_cases hy : y < n
    · rw [wAt_app (by omega)]
      have h1 : decide (y < n + 1) = true := decide_eq_true (by omega)
      have h2 : decide (y = n) = false := decide_eq_false (by omega)
      have h3 : decide (y < n) = true := decide_eq_true hy
      rw [h1, h2, h3]
      split <;> simp
    · by_cases hn : y = n
      · subst hn
        rw [wAt_last h]
        have h1 : decide (y < y + 1) = true := decide_eq_true (by omega)
        have h3 : decide (y < y) = false := decide_eq_false (by omega)
        rw [h1, h3, Bool.true_and, Bool.false_and]
        by_cases hx : x = hiOf bs y
        · rw [if_pos hx, decide_eq_true hx]
          simp
        · rw [if_neg hx, decide_eq_false hx]
      · have h1 : decide (y < n + 1) = false := decide_eq_false (by omega)
        have h2 : decide (y = n) = false := decide_eq_false hn
        have h3 : decide (y < n) = false := decide_eq_false hy
        rw [h1, h2, h3]
        split <;> simp
  funext y
  rw [e]
  split <;> rfl
theorem cnt_every (bs : List (Int × Int)) (top : Nat) : ∀ (n : Nat), (∀ w, w < n → 1 ≤ loOf bs w ∧ loOf bs w ≤ hiOf bs w ∧ hiOf bs w ≤ top) → ∀ Q, cntI (fun ws => boxB bs n ws && Q (patB bs n ws)) (everyL top n) = W (spanOf bs) (List.range n).reverse Q
  | 0, _, Q => by
    have e : patB bs 0 [] = fun _ => false := by funext y; unfold patB; simp
    show (if (true && Q (patB bs 0 [])) = true then (1 : Int) else 0) + 0 = if Q (fun _ => false) then 1 else 0
    rw [e, Bool.true_and, Int.add_zero]
  | n + 1, hb, Q => by
    have ih := cnt_every bs top n fun w hw => hb w (by omega)
    obtain ⟨b1, b2, b3⟩ := hb n (by omega)
    have er : (List.range (n + 1)).reverse = n :: (List.range n).reverse := by rw [List.range_succ, List.reverse_append]; rfl
    rw [er]
    show _ = W (spanOf bs) (List.range n).reverse (fun S => Q (ins n S)) + spanOf bs n * W (spanOf bs) (List.range n).reverse Q
    rw [← ih, ← ih]
    rw [show everyL top (n + 1) = (everyL top n).flatMap fun one => (rng top).map fun x => one ++ [x] from rfl, cntI_flat]
    unfold cntI
    rw [Int.mul_comm, ← sum_mulR, ← sum_add]
    refine congrArg List.sum (List.map_congr_left fun one h1 => ?_)
    have hl := (every_mem.mp h1).1
    rw [List.map_map]
    have e : ((rng top).map ((fun x => if (boxB bs (n + 1) x && Q (patB bs (n + 1) x)) = true then (1 : Int) else 0) ∘ fun x => one ++ [x])) = (rng top).map fun x => if loOf bs n ≤ x ∧ x ≤ hiOf bs n then (if x = hiOf bs n then (if (boxB bs n one && Q (ins n (patB bs n one))) = true then (1 : Int) else 0) else (if (boxB bs n one && Q (patB bs n one)) = true then (1 : Int) else 0)) else 0 := by
      refine List.map_congr_left fun x _ => ?_
      show (if (boxB bs (n + 1) (one ++ [x]) && Q (patB bs (n + 1) (one ++ [x]))) = true then (1 : Int) else 0) = _
      rw [box_app hl, pat_app hl]
      by_cases hx : loOf bs n ≤ x ∧ x ≤ hiOf bs n
      · rw [if_pos hx, decide_eq_true hx.1, decide_eq_true hx.2, Bool.and_true, Bool.and_true]
        by_cases hq : x = hiOf bs n
        · rw [if_pos hq, if_pos hq]
        · rw [if_neg hq, if_neg hq]
      · rw [if_neg hx]
        have : (decide (loOf bs n ≤ x) && decide (x ≤ hiOf bs n)) = false := by
          rw [← Bool.decide_and]
          exact decide_eq_false hx
        rw [this, Bool.and_false, Bool.false_and]
        rfl
    rw [e, cnt_rng _ _ _ _ b1 b2, if_neg (by omega), if_neg (by omega), Int.mul_comm (hiOf bs n - loOf bs n)]
    rfl
/-! ### what ways counts -/
def setQ (l : List Sale) (bs : List (Int × Int)) (S : Nat → Bool) : Bool := l.all fun s => (settersOf s bs).any S
def qP (l : List Sale) (bs : List (Int × Int)) (p : Int) (S : Nat → Bool) : Bool := (l.filter fun s => decide (s.price = p)).all fun s => (settersOf s bs).any S
theorem prices_mem' {l : List Sale} {p : Int} : p ∈ pricesOf l ↔ ∃ s ∈ l, s.price = p := by
  unfold pricesOf
  rw [(sortL_perm _).mem_iff, (insK_spec _ [] List.nodup_nil).2]
  simp
theorem setQ_prices {l : List Sale} {bs : List (Int × Int)} (S : Nat → Bool) : setQ l bs S = (pricesOf l).all fun p => qP l bs p S := by
  unfold setQ qP
  rw [Bool.eq_iff_iff, List.all_eq_true, List.all_eq_true]
  constructor
  · intro h p _
    rw [List.all_eq_true]
    exact fun s hs => h s (List.mem_filter.mp hs).1
  · intro h s hs
    have := h s.price (prices_mem'.mpr ⟨s, hs, rfl⟩)
    rw [List.all_eq_true] at this
    exact this s (List.mem_filter.mpr ⟨hs, by simp⟩)
theorem any_ins {xs : List Nat} {q : Nat} {S : Nat → Bool} (h : q ∉ xs) : xs.any (ins q S) = xs.any S := by
  rw [Bool.eq_iff_iff, List.any_eq_true, List.any_eq_true]
  constructor
  · rintro ⟨x, hx, e⟩
    refine ⟨x, hx, ?_⟩
    unfold ins at e
    have : decide (x = q) = false := decide_eq_false fun z => h (z ▸ hx)
    rw [this, Bool.false_or] at e
    exact e
  · rintro ⟨x, hx, e⟩
    refine ⟨x, hx, ?_⟩
    unfold ins
    rw [e, Bool.or_true]
theorem qP_free {l : List Sale} {bs : List (Int × Int)} (p : Int) (q : Nat) (h : q ∉ groupOf l bs p) (S : Nat → Bool) : qP l bs p (ins q S) = qP l bs p S := by
  unfold qP
  rw [Bool.eq_iff_iff, List.all_eq_true, List.all_eq_true]
  refine forall_congr' fun s => forall_congr' fun hs => ?_
  have hs' := List.mem_filter.mp hs
  rw [any_ins fun z => h (group_mem.mpr ⟨s, hs'.1, by simpa using hs'.2, z⟩)]
theorem sum_filter {α : Type} (P : α → Bool) (f : α → Int) : ∀ xs : List α, ((xs.filter P).map f).sum = (xs.map fun x => if P x then f x else 0).sum
  | [] => rfl
  | x :: xs => by
    have ih := sum_filter P f xs
    rw [List.map_cons, List.sum_cons, ← ih]
    cases hp : P x with
    | true => rw [List.filter_cons_of_pos hp, List.map_cons, List.sum_cons, if_pos rfl]
    | false => rw [List.filter_cons_of_neg (by rw [hp]; exact Bool.false_ne_true), if_neg Bool.false_ne_true, Int.zero_add]
theorem reach_q {l : List Sale} {bs : List (Int × Int)} {p : Int} (lot : List Nat) : reachesB l bs p lot = qP l bs p (memB lot) := by
  rw [Bool.eq_iff_iff, reachesB_iff]
  unfold qP
  rw [List.all_eq_true]
  constructor
  · intro h s hs
    have hs' := List.mem_filter.mp hs
    obtain ⟨w, h1, h2⟩ := h s hs'.1 (by simpa using hs'.2)
    exact List.any_eq_true.mpr ⟨w, h1, decide_eq_true h2⟩
  · intro h s hs e
    obtain ⟨w, h1, h2⟩ := List.any_eq_true.mp (h s (List.mem_filter.mpr ⟨hs, by simp [e]⟩))
    exact ⟨w, h1, of_decide_eq_true h2⟩
theorem many_W {l : List Sale} {bs : List (Int × Int)} (p : Int) : manyOf l bs p = W (spanOf bs) (groupOf l bs p) (qP l bs p) := by
  rw [lotSum_W bs _ group_nodup]
  unfold manyOf lotSum
  rw [sum_filter]
  refine congrArg List.sum (List.map_congr_left fun lot _ => ?_)
  rw [reach_q]
theorem seen_mem {l : List Sale} {bs : List (Int × Int)} {w : Nat} : ∀ (ps : List Int) (ks : List Int), ks.Nodup → ((w : Int) ∈ ps.foldl (seenF l bs) ks ↔ (w : Int) ∈ ks ∨ ∃ p ∈ ps, w ∈ groupOf l bs p)
  | [], ks, _ => by simp
  | p :: ps, ks, nd => by
    have hs := insK_spec (castN (groupOf l bs p)) ks nd
    rw [List.foldl_cons, seen_mem ps (seenF l bs ks p) hs.1]
    have e : (w : Int) ∈ seenF l bs ks p ↔ (w : Int) ∈ ks ∨ w ∈ groupOf l bs p := by
      unfold seenF
      rw [hs.2]
      unfold castN
      refine or_congr Iff.rfl ?_
      rw [List.mem_map]
      exact ⟨fun ⟨v, hv, e⟩ => by have : v = w := by omega
                                  exact this ▸ hv, fun h => ⟨w, h, rfl⟩⟩
    rw [e]
    simp only [List.mem_cons, exists_eq_or_imp, or_assoc]
theorem rest_prod {l : List Sale} {bs : List (Int × Int)} {ks : List Int} : ∀ (ws : List Nat) (a : Int), ws.foldl (restF l bs ks) a = a * prodL ((ws.filter fun w : Nat => !decide ((w : Int) ∈ ks)).map fun p => spanOf bs p + 1)
  | [], a => (Int.mul_one a).symm
  | w :: ws, a => by
    rw [List.foldl_cons, rest_prod ws]
    unfold restF
    by_cases h : (w : Int) ∈ ks
    · rw [if_pos h, List.filter_cons_of_neg (by simp [h])]
    · rw [if_neg h, List.filter_cons_of_pos (by simp [h])]
      rw [Int.mul_assoc]
      rfl
theorem ways_W {bs : List (Int × Int)} {folk : Nat} {l : List Sale} (hs : ∀ s ∈ l, ∀ w ∈ s.others, w < folk) : waysOf folk l bs = W (spanOf bs) (List.range folk).reverse (setQ l bs) := by
  have hgm : ∀ p w, w ∈ groupOf l bs p → w < folk ∧ hiOf bs w = p := fun p w h => by
    obtain ⟨s, h1, h2, h3⟩ := group_mem.mp h
    have h4 := List.mem_filter.mp h3
    exact ⟨hs s h1 w h4.1, by rw [← h2]; simpa using h4.2⟩
  have hdis : ∀ p p', p ≠ p' → ∀ w ∈ groupOf l bs p, w ∉ groupOf l bs p' := fun p p' hne w h1 h2 => hne ((hgm p w h1).2.symm.trans (hgm p' w h2).2)
  let rest := (List.range folk).filter fun w : Nat => !decide ((w : Int) ∈ seenOf l bs (pricesOf l))
  have hsm : ∀ w : Nat, (w : Int) ∈ seenOf l bs (pricesOf l) ↔ ∃ p ∈ pricesOf l, w ∈ groupOf l bs p := fun w => by
    unfold seenOf
    rw [seen_mem _ _ List.nodup_nil]
    simp
  have hrest : ∀ w, w ∈ rest ↔ w < folk ∧ ¬ ∃ p ∈ pricesOf l, w ∈ groupOf l bs p := fun w => by
    show w ∈ List.filter _ _ ↔ _
    rw [List.mem_filter, List.mem_range, Bool.not_eq_true', decide_eq_false_iff_not, hsm]
  have hperm : (List.range folk).reverse.Perm ((pricesOf l).flatMap (groupOf l bs) ++ rest) := by
    refine (List.reverse_perm _).trans ((List.perm_ext_iff_of_nodup List.nodup_range ?_).mpr fun w => ?_)
    · refine List.nodup_append.mpr ⟨?_, List.nodup_range.filter _, fun a ha b hb z => ?_⟩
      · refine List.pairwise_flatMap.mpr ⟨fun p _ => group_nodup, ?_⟩
        refine (prices_nodup (l := l)).imp fun {p p'} hne x hx y hy z => ?_
        exact hdis p p' hne x hx (z ▸ hy)
      · obtain ⟨p, hp, hw⟩ := List.mem_flatMap.mp ha
        exact ((hrest b).mp hb).2 ⟨p, hp, z ▸ hw⟩
    · rw [List.mem_append, List.mem_range, hrest, List.mem_flatMap]
      constructor
      · intro h
        by_cases hc : ∃ p ∈ pricesOf l, w ∈ groupOf l bs p
        · exact .inl hc
        · exact .inr ⟨h, hc⟩
      · rintro (⟨p, _, h⟩ | ⟨h, _⟩)
        · exact (hgm p w h).1
        · exact h
  have eq1 : setQ l bs = fun S => (pricesOf l).all fun p => qP l bs p S := funext setQ_prices
  rw [W_perm _ hperm, eq1, W_groups (spanOf bs) rest (groupOf l bs) (qP l bs) (fun p q h S => qP_free p q h S) (pricesOf l) prices_nodup (fun p _ p' _ hne => hdis p p' hne) fun p hp w hw z => ((hrest w).mp hw).2 ⟨p, hp, z⟩]
  unfold waysOf
  rw [rest_prod]
  have e2 : (manyF l bs) = fun a p => a * manyOf l bs p := rfl
  rw [e2, foldl_prod, Int.one_mul]
  congr 2
  exact List.map_congr_left fun p _ => many_W p
theorem ways_count {bs : List (Int × Int)} {folk top : Nat} {l : List Sale} (hb : ∀ w, w < folk → 1 ≤ loOf bs w ∧ loOf bs w ≤ hiOf bs w ∧ hiOf bs w ≤ top) (hs : ∀ s ∈ l, ∀ w ∈ s.others, w < folk) : waysOf folk l bs = cntI (fun ws => boxB bs folk ws && setQ l bs (patB bs folk ws)) (everyL top folk) := by
  rw [ways_W hs, cnt_every bs top folk hb]
section
variable {folk top : Nat} {l : List Sale}
theorem set_iff {bs : List (Int × Int)} {ws : List Int} (hs : ∀ s ∈ l, ∀ w ∈ s.others, w < folk) : setQ l bs (patB bs folk ws) = true ↔ ∀ s ∈ l, ∃ w ∈ settersOf s bs, wAt ws w = hiOf bs w := by
  unfold setQ
  rw [List.all_eq_true]
  refine forall_congr' fun s => forall_congr' fun h => ?_
  rw [List.any_eq_true]
  constructor
  · rintro ⟨w, h1, h2⟩
    unfold patB at h2
    rw [Bool.and_eq_true] at h2
    exact ⟨w, h1, of_decide_eq_true h2.2⟩
  · rintro ⟨w, h1, h2⟩
    refine ⟨w, h1, ?_⟩
    unfold patB
    rw [decide_eq_true (hs s h w (List.mem_filter.mp h1).1), decide_eq_true h2]
    rfl
theorem box_iff {bs : List (Int × Int)} {ws : List Int} : boxB bs folk ws = true ↔ ∀ w, w < folk → loOf bs w ≤ wAt ws w ∧ wAt ws w ≤ hiOf bs w := by
  unfold boxB
  rw [List.all_eq_true]
  constructor
  · intro h w hw
    have := h w (List.mem_range.mpr hw)
    rw [Bool.and_eq_true] at this
    exact ⟨of_decide_eq_true this.1, of_decide_eq_true this.2⟩
  · intro h w hw
    have := h w (List.mem_range.mp hw)
    rw [decide_eq_true this.1, decide_eq_true this.2]
    rfl
theorem fit_box (ok : LogOk folk (top : Nat) l) {ws : List Int} (hm : ws ∈ everyL top folk) : fitB l ws = (boxB (boundsOf folk (top : Nat) l) folk ws && setQ l (boundsOf folk (top : Nat) l) (patB (boundsOf folk (top : Nat) l) folk ws)) := by
  obtain ⟨hl, hbd⟩ := every_mem.mp hm
  have hlt : ∀ s ∈ l, ∀ w ∈ s.others, w < folk := fun s hs => (ok.ok s hs).lt
  rw [Bool.eq_iff_iff, Bool.and_eq_true, fitB_iff, box_iff, set_iff hlt]
  constructor
  · intro h
    have W : Worths folk (top : Nat) l ws := ⟨ok, hl, hbd, h⟩
    refine ⟨fun w hw => by rw [(hi_eq hw).1, (hi_eq hw).2]; exact ⟨W.won hw, W.lost hw⟩, fun s hs => ?_⟩
    have so := ok.ok s hs
    have hne : s.others.map (wAt ws) ≠ [] := fun z => so.ne (List.map_eq_nil_iff.mp z)
    obtain ⟨w, hw, e⟩ := List.mem_map.mp (maxL_spec hne).1
    rw [(h s hs).mx] at e
    have h1 := W.lost (so.lt w hw)
    have h2 := lost_le (top := (top : Nat)) hs hw
    have h3 : lostAt (top : Nat) l w = s.price := by omega
    exact ⟨w, (setter_mem ok hs).mpr ⟨hw, h3⟩, by rw [(hi_eq (so.lt w hw)).1, h3, e]⟩
  · rintro ⟨hb, hset⟩ s hs
    have so := ok.ok s hs
    have hb' : ∀ w, w < folk → wonAt l w ≤ wAt ws w ∧ wAt ws w ≤ lostAt (top : Nat) l w := fun w hw => by
      have := hb w hw
      rw [(hi_eq hw).1, (hi_eq hw).2] at this
      exact this
    obtain ⟨w, hw, e⟩ := hset s hs
    obtain ⟨hwo, h3⟩ := (setter_mem ok hs).mp hw
    rw [(hi_eq (so.lt w hwo)).1, h3] at e
    refine ⟨(maxL_eq (List.mem_map.mpr ⟨w, hwo, e⟩) fun y hy => ?_).symm, ?_⟩
    · obtain ⟨v, hv, rfl⟩ := List.mem_map.mp hy
      have h1 := (hb' v (so.lt v hv)).2
      have h2 := lost_le (top := (top : Nat)) hs hv
      omega
    · have h1 := (hb' s.win so.win).1
      have h2 := won_ge hs
      omega
theorem cntI_congr {α : Type} {P Q : α → Bool} {xs : List α} (h : ∀ x ∈ xs, P x = Q x) : cntI P xs = cntI Q xs := by
  unfold cntI
  exact congrArg List.sum (List.map_congr_left fun x hx => by rw [h x hx])
theorem cntI_none {α : Type} {P : α → Bool} {xs : List α} (h : ∀ x ∈ xs, P x = false) : cntI P xs = 0 := by
  unfold cntI
  refine sum_zero fun x hx => ?_
  rw [h x hx]
  rfl
theorem every_empty (ok : LogOk folk (top : Nat) l) (hc : canBe folk (top : Nat) l = false) : ∀ ws ∈ everyL top folk, fitB l ws = false := fun ws hm => by
  cases hf : fitB l ws with
  | false => rfl
  | true =>
    have := (canBe_iff ok).mpr ⟨ws, (every_worths ok).mp (List.mem_filter.mpr ⟨hm, hf⟩)⟩
    rw [hc] at this
    cases this
theorem bnd_hi (ok : LogOk folk (top : Nat) l) (hc : canBe folk (top : Nat) l = true) : ∀ w, w < folk → 1 ≤ loOf (boundsOf folk (top : Nat) l) w ∧ loOf (boundsOf folk (top : Nat) l) w ≤ hiOf (boundsOf folk (top : Nat) l) w ∧ hiOf (boundsOf folk (top : Nat) l) w ≤ (top : Nat) := fun w hw => by
  rw [(hi_eq hw).1, (hi_eq hw).2]
  exact ⟨won_one ok, (canBe_spec hc).1 w hw, lost_top ok⟩
theorem okB_can : okB l (boundsOf folk (top : Nat) l) = canBe folk (top : Nat) l := rfl
/-- how_many counts the worths that fit -/
theorem how_eq (ok : LogOk folk (top : Nat) l) : waysF folk l (boundsOf folk (top : Nat) l) = (((everyL top folk).filter (fitB l)).length : Nat) := by
  rw [cntI_len]
  unfold waysF
  rw [okB_can]
  cases hc : canBe folk (top : Nat) l with
  | false =>
    rw [if_neg Bool.false_ne_true]
    exact (cntI_none (every_empty ok hc)).symm
  | true =>
    rw [if_pos rfl, ways_count (top := top) (bnd_hi ok hc) fun s hs => (ok.ok s hs).lt]
    exact cntI_congr fun ws hm => (fit_box ok hm).symm
theorem nar_hi {bs : List (Int × Int)} {w v : Nat} (hw : w < bs.length) : hiOf (narrowB bs w) v = hiOf bs v ∧ loOf (narrowB bs w) v = if v = w then hiOf bs w else loOf bs v := by
  unfold narrowB
  have e : ∀ x : Int × Int, (bs.set w x).getD v (0, 0) = if v = w then x else bs.getD v (0, 0) := fun x => by
    rw [List.getD_eq_getElem?_getD, List.getD_eq_getElem?_getD, List.getElem?_set]
    by_cases h : w = v
    · subst h
      rw [if_pos rfl, if_pos hw, if_pos rfl]
      rfl
    · rw [if_neg h, if_neg fun z => h z.symm]
  refine ⟨?_, ?_⟩
  · show ((bs.set w _).getD v (0, 0)).2 = (bs.getD v (0, 0)).2
    rw [e]
    by_cases h : v = w
    · subst h
      rw [if_pos rfl]
      rfl
    · rw [if_neg h]
  · show ((bs.set w _).getD v (0, 0)).1 = if v = w then hiOf bs w else (bs.getD v (0, 0)).1
    rw [e]
    by_cases h : v = w
    · rw [if_pos h, if_pos h]
    · rw [if_neg h, if_neg h]
theorem nar_set {bs : List (Int × Int)} {w : Nat} (hw : w < bs.length) (s : Sale) : settersOf s (narrowB bs w) = settersOf s bs := by
  unfold settersOf
  exact List.filter_congr fun v _ => by rw [(nar_hi hw).1]
theorem nar_ok {bs : List (Int × Int)} {w : Nat} (hw : w < bs.length) (h : okB l bs = true) : okB l (narrowB bs w) = true := by
  unfold okB at h ⊢
  rw [Bool.and_eq_true] at h ⊢
  refine ⟨?_, ?_⟩
  · have h1 := h.1
    rw [List.all_eq_true] at h1 ⊢
    intro x hx
    obtain ⟨b, hb, rfl⟩ := List.mem_map.mp hx
    rcases List.mem_or_eq_of_mem_set hb with hb | rfl
    · exact h1 _ (List.mem_map.mpr ⟨b, hb, rfl⟩)
    · exact decide_eq_true (Int.le_refl _)
  · have h2 := h.2
    have e : (l.map fun s => !decide (settersOf s (narrowB bs w) = [])) = l.map fun s => !decide (settersOf s bs = []) := List.map_congr_left fun s _ => by rw [nar_set hw]
    rw [e]
    exact h2
/-- ways_set counts the worths that fit and have this one at the price -/
theorem set_eq (ok : LogOk folk (top : Nat) l) {s : Sale} (hs : s ∈ l) {w : Nat} (hw : w ∈ s.others) : waysSet folk (top : Nat) l s w = cntI (fun ws => fitB l ws && decide (wAt ws w = s.price)) (everyL top folk) := by
  have hwf := (ok.ok s hs).lt w hw
  have hlt : ∀ s ∈ l, ∀ w ∈ s.others, w < folk := fun s hs => (ok.ok s hs).lt
  have hbl : w < (boundsOf folk (top : Nat) l).length := by rw [bounds_len]; exact hwf
  unfold waysSet
  cases hc : canBe folk (top : Nat) l with
  | false =>
    rw [if_pos (by rw [Bool.not_false, Bool.or_true])]
    exact (cntI_none fun ws hm => by rw [every_empty ok hc ws hm, Bool.false_and]).symm
  | true =>
    rw [Bool.not_true, Bool.or_false]
    by_cases hh : hiOf (boundsOf folk (top : Nat) l) w = s.price
    · rw [decide_eq_true hh, Bool.not_true, if_neg Bool.false_ne_true]
      unfold waysF
      rw [nar_ok hbl (by rw [okB_can, hc]), if_pos rfl]
      rw [ways_count (top := top) (fun v hv => ?_) hlt]
      · refine cntI_congr fun ws hm => ?_
        rw [fit_box ok hm, Bool.eq_iff_iff, Bool.and_eq_true, Bool.and_eq_true, Bool.and_eq_true, box_iff, box_iff, set_iff hlt, set_iff hlt, decide_eq_true_eq]
        constructor
        · rintro ⟨h1, h2⟩
          refine ⟨⟨fun v hv => ?_, fun t ht => ?_⟩, ?_⟩
          · have := h1 v hv
            rw [(nar_hi hbl).1, (nar_hi hbl).2] at this
            by_cases hvw : v = w
            · rw [if_pos hvw] at this
              have h5 := (bnd_hi ok hc v hv).2.1
              subst hvw
              omega
            · rw [if_neg hvw] at this
              exact this
          · obtain ⟨v, h3, h4⟩ := h2 t ht
            rw [nar_set hbl] at h3
            rw [(nar_hi hbl).1] at h4
            exact ⟨v, h3, h4⟩
          · have := h1 w hwf
            rw [(nar_hi hbl).1, (nar_hi hbl).2, if_pos rfl] at this
            omega
        · rintro ⟨⟨h1, h2⟩, h3⟩
          refine ⟨fun v hv => ?_, fun t ht => ?_⟩
          · have := h1 v hv
            rw [(nar_hi hbl).1, (nar_hi hbl).2]
            by_cases hvw : v = w
            · rw [if_pos hvw]
              subst hvw
              omega
            · rw [if_neg hvw]
              exact this
          · obtain ⟨v, h4, h5⟩ := h2 t ht
            refine ⟨v, by rw [nar_set hbl]; exact h4, ?_⟩
            rw [(nar_hi hbl).1]
            exact h5
      · rw [(nar_hi hbl).1, (nar_hi hbl).2]
        have h5 := bnd_hi ok hc v hv
        by_cases hvw : v = w
        · rw [if_pos hvw]
          subst hvw
          omega
        · rw [if_neg hvw]
          exact h5
    · rw [decide_eq_false hh, Bool.not_false, if_pos rfl]
      refine (cntI_none fun ws hm => ?_).symm
      cases hf : fitB l ws with
      | false => rfl
      | true =>
        have W := (every_worths ok).mp (List.mem_filter.mpr ⟨hm, hf⟩)
        have h1 := W.lost hwf
        have h2 := lost_le (top := (top : Nat)) hs hw
        rw [(hi_eq hwf).1] at hh
        rw [Bool.true_and]
        exact decide_eq_false (by omega)
end
/-! ### _law_ways -/
def markOf (l : List Sale) (w : Nat) (hi : Int) (r : List Bool) (s : Bool) : List Bool := (l.zip r).map fun p => p.2 || (s && (decide (w ∈ p.1.others) && decide (p.1.price = hi)))
def putF (l : List Sale) (w : Nat) (hi : Int) (kv : List Bool × Int) (L : List (List Bool × Int)) (sm : Bool × Int) : List (List Bool × Int) := tbPut L (markOf l w hi kv.1 sm.1) ((tbGet L (markOf l w hi kv.1 sm.1)).getD 0 + sm.2 * kv.2)
def twoL (b : Int × Int) : List (Bool × Int) := [(true, 1), (false, b.2 - b.1)]
def kvF (l : List Sale) (w : Nat) (b : Int × Int) (L : List (List Bool × Int)) (kv : List Bool × Int) : List (List Bool × Int) := (twoL b).foldl (putF l w b.2 kv) L
def lwStep (l : List Sale) (F : List (List Bool × Int)) (p : (Int × Int) × Nat) : List (List Bool × Int) := F.foldl (kvF l p.2 p.1) []
def lwInit (n : Nat) : List (List Bool × Int) := [(List.replicate n false, 1)]
def lways (l : List Sale) (bs : List (Int × Int)) : Int := if bs.all (fun b => decide (b.1 ≤ b.2)) then (tbGet (bs.zipIdx.foldl (lwStep l) (lwInit l.length)) (List.replicate l.length true)).getD 0 else 0
structure TbI (n m : Nat) (S : Nat) (F : List (List Bool × Int)) : Prop where
  len : F.length ≤ m
  nd : (F.map (·.1)).Nodup
  kl : ∀ kv ∈ F, kv.1.length = n
  sz : ∀ kv ∈ F, Sz kv.2 S
theorem TbI.mono {n m m' S S' : Nat} {F : List (List Bool × Int)} (h : TbI n m S F) (h1 : m ≤ m') (h2 : S ≤ S') : TbI n m' S' F := ⟨Nat.le_trans h.len h1, h.nd, h.kl, fun kv hk => (h.sz kv hk).mono h2⟩
theorem tbGet_mem {F : List (List Bool × Int)} {ks : List Bool} {i : Int} (h : tbGet F ks = some i) : (ks, i) ∈ F := by
  unfold tbGet at h
  obtain ⟨kv, h1, h2⟩ := Option.map_eq_some_iff.mp h
  have h3 := List.mem_of_find?_eq_some h1
  have h4 : kv.1 = ks := by simpa using List.find?_some h1
  rw [← h4, ← h2]
  exact h3
theorem tbGet_of {F : List (List Bool × Int)} {kv : List Bool × Int} : (F.map (·.1)).Nodup → kv ∈ F → tbGet F kv.1 = some kv.2 := by
  induction F with
  | nil => intro _ h; cases h
  | cons x F ih =>
    intro nd h
    rw [List.map_cons, List.nodup_cons] at nd
    rcases List.mem_cons.mp h with rfl | h
    · unfold tbGet
      rw [List.find?_cons_of_pos (by simp)]
      rfl
    · have hne : x.1 ≠ kv.1 := fun z => nd.1 (z ▸ List.mem_map.mpr ⟨kv, h, rfl⟩)
      have := ih nd.2 h
      unfold tbGet at this ⊢
      rw [List.find?_cons_of_neg (by simpa using hne)]
      exact this
theorem tbGet_none {F : List (List Bool × Int)} {ks : List Bool} (h : tbGet F ks = none) : ks ∉ F.map (·.1) := by
  unfold tbGet at h
  rw [Option.map_eq_none_iff, List.find?_eq_none] at h
  intro z
  obtain ⟨kv, h1, h2⟩ := List.mem_map.mp z
  exact h kv h1 (by simpa using h2)
theorem tbPut_mem {F : List (List Bool × Int)} {ks : List Bool} {i : Int} {kv : List Bool × Int} (h : kv ∈ tbPut F ks i) : kv ∈ F ∨ kv = (ks, i) := by
  unfold tbPut at h
  split at h
  · obtain ⟨x, h1, h2⟩ := List.mem_map.mp h
    by_cases e : x.1 = ks
    · rw [if_pos e] at h2
      exact .inr (by rw [← h2, e])
    · rw [if_neg e] at h2
      exact .inl (h2 ▸ h1)
  · rcases List.mem_append.mp h with h | h
    · exact .inl h
    · exact .inr (List.mem_singleton.mp h)
theorem tbPut_keys {F : List (List Bool × Int)} {ks : List Bool} {i : Int} (nd : (F.map (·.1)).Nodup) : ((tbPut F ks i).map (·.1)).Nodup := by
  unfold tbPut
  cases hg : tbGet F ks with
  | some j =>
    rw [if_pos (show (some j).isSome = true from rfl), List.map_map]
    have e : (F.map ((fun x : List Bool × Int => x.1) ∘ fun kv : List Bool × Int => if kv.1 = ks then (kv.1, i) else kv)) = F.map (·.1) := List.map_congr_left fun kv _ => by
      show (if kv.1 = ks then (kv.1, i) else kv).1 = kv.1
      split <;> rfl
    rw [e]
    exact nd
  | none =>
    rw [if_neg (by simp), List.map_append]
    refine List.nodup_append.mpr ⟨nd, by simp, fun a ha b hb z => ?_⟩
    have hb' : b = ks := by simpa using hb
    exact tbGet_none hg (hb' ▸ z ▸ ha)
theorem TbI.put {n m S : Nat} {F : List (List Bool × Int)} {ks : List Bool} {i : Int} (h : TbI n m S F) (hk : ks.length = n) (hs : Sz i (S + 1)) : TbI n (m + 1) (S + 1) (tbPut F ks i) := by
  refine ⟨Nat.le_trans (tbPut_len F ks i) (by have := h.len; omega), tbPut_keys h.nd, fun kv hkv => ?_, fun kv hkv => ?_⟩
  · rcases tbPut_mem hkv with h1 | rfl
    · exact h.kl kv h1
    · exact hk
  · rcases tbPut_mem hkv with h1 | rfl
    · exact (h.sz kv h1).mono (by omega)
    · exact hs
theorem mark_len {l : List Sale} {w : Nat} {hi : Int} {r : List Bool} {s : Bool} (h : r.length = l.length) : (markOf l w hi r s).length = l.length := by
  unfold markOf
  rw [List.length_map, List.length_zip, h, Nat.min_self]
theorem put_ok {l : List Sale} {w m S S0 : Nat} {hi : Int} {kv : List Bool × Int} {L : List (List Bool × Int)} {sm : Bool × Int} (h : TbI l.length m S L) (hk : kv.1.length = l.length) (hs : Sz kv.2 S0) (hm : Sz sm.2 10) (hS : S0 + 10 ≤ S) : TbI l.length (m + 1) (S + 1) (putF l w hi kv L sm) := by
  unfold putF
  refine h.put (mark_len hk) (Sz.add ?_ ((hm.mul hs).mono (by omega)))
  cases hg : tbGet L (markOf l w hi kv.1 sm.1) with
  | none => exact Nat.pow_pos (by omega)
  | some j => exact h.sz _ (tbGet_mem hg)
theorem two_ok {b : Int × Int} (hb : 0 ≤ b.1 ∧ b.1 ≤ 1000 ∧ 0 ≤ b.2 ∧ b.2 ≤ 1000) : ∀ sm ∈ twoL b, Sz sm.2 10 := fun sm hsm => by
  unfold twoL at hsm
  simp only [List.mem_cons, List.not_mem_nil, or_false] at hsm
  rcases hsm with rfl | rfl
  · exact sz_one.mono (by omega)
  · exact sz_small (by show -1001 ≤ b.2 - b.1 ∧ b.2 - b.1 ≤ 1001; omega)
theorem kv_ok {l : List Sale} {w m S S0 : Nat} {b : Int × Int} {kv : List Bool × Int} {L : List (List Bool × Int)} (hb : 0 ≤ b.1 ∧ b.1 ≤ 1000 ∧ 0 ≤ b.2 ∧ b.2 ≤ 1000) (h : TbI l.length m S L) (hk : kv.1.length = l.length) (hs : Sz kv.2 S0) (hS : S0 + 10 ≤ S) : TbI l.length (m + 2) (S + 2) (kvF l w b L kv) := by
  have h2 := two_ok hb
  have a := put_ok (w := w) (hi := b.2) (sm := (true, 1)) h hk hs (h2 _ (by simp [twoL])) hS
  exact put_ok (sm := (false, b.2 - b.1)) a hk hs (h2 _ (by simp [twoL])) (by omega)
theorem kvs_ok {l : List Sale} {w S0 : Nat} {b : Int × Int} (hb : 0 ≤ b.1 ∧ b.1 ≤ 1000 ∧ 0 ≤ b.2 ∧ b.2 ≤ 1000) : ∀ (G : List (List Bool × Int)) (L : List (List Bool × Int)) (m S : Nat), (∀ kv ∈ G, kv.1.length = l.length ∧ Sz kv.2 S0) → S0 + 10 ≤ S → TbI l.length m S L → TbI l.length (m + 2 * G.length) (S + 2 * G.length) (G.foldl (kvF l w b) L)
  | [], _, _, _, _, _, h => h
  | kv :: G, L, m, S, hG, hS, h => by
    have h1 := kv_ok (w := w) hb h (hG kv List.mem_cons_self).1 (hG kv List.mem_cons_self).2 hS
    have h2 := kvs_ok (w := w) hb G _ _ _ (fun x hx => hG x (List.mem_cons_of_mem _ hx)) (by omega) h1
    rw [List.foldl_cons, List.length_cons]
    exact h2.mono (by omega) (by omega)
theorem tb_nil {n m S : Nat} : TbI n m S [] := ⟨Nat.zero_le _, List.nodup_nil, fun kv h => (nomatch h), fun kv h => (nomatch h)⟩
theorem step_ok {l : List Sale} {m S : Nat} {F : List (List Bool × Int)} {p : (Int × Int) × Nat} (hb : 0 ≤ p.1.1 ∧ p.1.1 ≤ 1000 ∧ 0 ≤ p.1.2 ∧ p.1.2 ≤ 1000) (h : TbI l.length m S F) : TbI l.length (2 * m) (S + 10 + 2 * m) (lwStep l F p) := by
  have := kvs_ok (l := l) (w := p.2) (S0 := S) hb F [] 0 (S + 10) (fun kv hk => ⟨h.kl kv hk, h.sz kv hk⟩) (Nat.le_refl _) tb_nil
  have hl := h.len
  exact this.mono (by omega) (by omega)
theorem steps_ok {l : List Sale} {bs : List (Int × Int)} (hb : ∀ b ∈ bs, 0 ≤ b.1 ∧ b.1 ≤ 1000 ∧ 0 ≤ b.2 ∧ b.2 ≤ 1000) (h8 : bs.length ≤ 8) (i : Nat) (hi : i ≤ bs.length) : TbI l.length (2 ^ i) (1 + 522 * i) ((bs.zipIdx.take i).foldl (lwStep l) (lwInit l.length)) := by
  induction i with
  | zero =>
    refine ⟨by simp [lwInit], by simp [lwInit], fun kv hk => ?_, fun kv hk => ?_⟩
    · have : kv = (List.replicate l.length false, 1) := by simpa [lwInit] using hk
      rw [this]
      simp
    · have : kv = (List.replicate l.length false, 1) := by simpa [lwInit] using hk
      rw [this]
      exact sz_one
  | succ i ih =>
    have hlt : i < bs.zipIdx.length := by rw [List.length_zipIdx]; omega
    rw [List.take_succ, List.getElem?_eq_getElem hlt, List.foldl_append]
    have hm : (bs.zipIdx[i]).1 ∈ bs := by
      have h := List.getElem_mem hlt
      generalize bs.zipIdx[i] = p at *
      obtain ⟨a, n⟩ := p
      exact (List.mem_zipIdx h).2.2 ▸ List.getElem_mem _
    have := step_ok (hb _ hm) (ih (by omega))
    have hp : 2 ^ i ≤ 256 := pow8 (by omega)
    exact this.mono (by rw [Nat.pow_succ]; omega) (by omega)
def smD (p : Bool × Int) : D := .tup [.bl p.1, .int p.2]
abbrev s__law_ways : Stmt := topS 47
abbrev n__law_ways : List Str := ["log1", "ends1", "found", "who", "later", "reached", "low", "high", "sets1", "many", "mark", "sale", "had"]
theorem sc__law_ways : FnScope n__law_ways ["log1", "ends1"] (defScope s__law_ways) := ⟨rfl, rfl, rfl, by decide +kernel, rfl, by decide +kernel, by decide +kernel⟩
def C__law_ways : Con := fun ds B r B' => ∃ (l : List Sale) (bs : List (Int × Int)), l.length ≤ 8 ∧ bs.length ≤ 8 ∧ (∀ b ∈ bs, 0 ≤ b.1 ∧ b.1 ≤ 1000 ∧ 0 ≤ b.2 ∧ b.2 ≤ 1000) ∧ ds = [logD l, .lst (bs.map bD)] ∧ r = .d (.int (lways l bs)) ∧ B' = B
theorem has__law_ways {T : Top} {f : Addr} {fd : FuncData} (bl : Bl T) (F : Fun T.K "_law_ways" "_law_ways" s__law_ways f fd) (hm : T.mg "_law_ways" = some (.ref f)) : HasFn T 1 "_law_ways" C__law_ways := by
  refine fn_ok F sc__law_ways hm (F.binds fun _ _ _ _ _ _ us hl => match us, hl with | [_, _], _ => rfl) (fun ds B r B' ⟨_, _, _, _, _, h, _⟩ => by rw [h]; rfl) fun ds B r B' ⟨l, bs, l8, b8, hbd, h1, h2, h3⟩ => ?_
  subst h1 h2 h3
  have rep : ∀ b : Bool, D.tup (List.replicate (l.map Sale.d).length (.bl b)) = .tup ((List.replicate l.length b).map .bl) := fun b => by rw [List.length_map, List.map_replicate]
  have ll : (l.map Sale.d).length ≤ 1000 := by rw [List.length_map]; omega
  refine exs_cons (ex_set (i := 2) (x := .dtb T.P T.w (lwInit l.length)) (by walk_at "st") (EvR.fz (ct := .t T.P T.w (lwInit l.length)) (evr_tb1 (EvR.to (ev_bin (b_repT ll) (ev_tup (evs_cons ev_bl evs_nil)) (ev_len bl (x := logD l) (by walk_at "nm") rfl)) (rep false)) ev_int)) ?_ (fun _ _ => rfl))
  let ρ1 (G : List (List Bool × Int)) : Rho := (startR n__law_ways [logD l, .lst (bs.map bD)]).set 2 (.d (.dtb T.P T.w G))
  refine exs_cons (ex_for (B1 := B') (ds := bs.zipIdx.map fun p => .tup [nD p.2, bD p.1]) (by rw [← enD_bs]; exact it_enumL rfl bl.enumerate (by walk_at "nm")) (fun i ρ C => (∀ p ∈ bs.zipIdx.take i, p.1.1 ≤ p.1.2) ∧ ρ = ρ1 ((bs.zipIdx.take i).foldl (lwStep l) (lwInit l.length)) ∧ C = B') ⟨fun s h => (nomatch h), rfl, rfl⟩ (fun i d ρ' C hd ⟨g0, g1, g2⟩ => ?_) fun ρ' C h => ?_)
  · obtain ⟨p, hx, rfl, hmm, hi, ht⟩ := map_get hd
    subst g1 g2
    rw [List.length_zipIdx] at hi
    have hpb : p.1 ∈ bs := by
      obtain ⟨a, n⟩ := p
      exact (List.mem_zipIdx hmm).2.2 ▸ List.getElem_mem _
    have pb := hbd _ hpb
    have fI := steps_ok (l := l) hbd b8 i (by omega)
    have hp8 : 2 ^ i ≤ 256 := pow8 (by omega)
    rw [ht, List.foldl_append]
    generalize (bs.zipIdx.take i).foldl (lwStep l) (lwInit l.length) = G at *
    refine ⟨_, _, tg_tup (tgs_cons (tg_name (i := 3) (by walk_at "st")) (tgs_cons (tg_tup (tgs_cons (tg_name (i := 6) (by walk_at "st")) (tgs_cons (tg_name (i := 7) (by walk_at "st")) tgs_nil))) tgs_nil)), ?_⟩
    refine exs_cons (ex_if (k := decide (p.1.2 < p.1.1)) (B1 := C) (ts_cmp c_lt (by walk_at "nm") (by walk_at "nm")) (fun hk => ?_) fun hk => exs_nil ?_)
    · have e : lways l bs = 0 := by
        unfold lways
        rw [if_neg]
        intro z
        have := List.all_eq_true.mp z p.1 hpb
        have h1 : p.1.1 ≤ p.1.2 := of_decide_eq_true this
        have h2 : p.1.2 < p.1.1 := of_decide_eq_true hk
        omega
      rw [e]
      exact exs_one (ex_ret ev_int ⟨rfl, rfl⟩)
    have hle : p.1.1 ≤ p.1.2 := by have := of_decide_eq_false hk; omega
    refine exs_cons (ex_setR (i := 4) (r := .o (.t T.P T.w [])) (by walk_at "st") evr_tb0 ?_ (fun _ _ => rfl))
    let ρ2 (L : List (List Bool × Int)) : Rho := ((((ρ1 G).set 3 (.d (nD p.2))).set 6 (.d (.int p.1.1))).set 7 (.d (.int p.1.2))).set 4 (.o (.t T.P T.w L))
    have fl : G.length ≤ 256 := Nat.le_trans fI.len hp8
    have fk := fI.kl
    have fs := fI.sz
    have fn := fI.nd
    refine exs_cons (ex_for (B1 := C) (ds := G.map fun kv => .tup (kv.1.map .bl)) (it_tb (by walk_at "nm") fun kv hk => by rw [fk kv hk]; omega) (fun j ρ Z => TbI l.length (2 * j) (1 + 522 * i + 10 + 2 * j) ((G.take j).foldl (kvF l p.2 p.1) []) ∧ ρ = ρ2 ((G.take j).foldl (kvF l p.2 p.1) []) ∧ Z = C) ⟨tb_nil, rfl, rfl⟩ (fun j d ρ' Z hd ⟨k0, k1, k2⟩ => ?_) fun ρ' Z h => ?_)
    · obtain ⟨kv, hx2, rfl, hm2, hj, ht2⟩ := map_get hd
      subst k1 k2
      rw [ht2, List.foldl_append]
      generalize (G.take j).foldl (kvF l p.2 p.1) [] = L0 at *
      have kvl := fk kv hm2
      have kvs := fs kv hm2
      have two := two_ok pb
      have kvg := tbGet_of fn hm2
      refine ⟨_, _, tg_name (i := 5) (by walk_at "st"), ?_⟩
      let ρ3 (L : List (List Bool × Int)) : Rho := (ρ2 L).set 5 (.d (.tup (kv.1.map .bl)))
      refine exs_cons (ex_for (B1 := Z) (ds := (twoL p.1).map smD) (it_seq (ev_lst (evs_cons (ev_tup (evs_cons ev_bl (evs_cons ev_int evs_nil))) (evs_cons (ev_tup (evs_cons ev_bl (evs_cons (ev_bin b_sub (by walk_at "nm") (by walk_at "nm")) evs_nil))) evs_nil))) rfl) (fun t ρ Y => TbI l.length (2 * j + t) (1 + 522 * i + 10 + 2 * j + t) (((twoL p.1).take t).foldl (putF l p.2 p.1.2 kv) L0) ∧ ρ = ρ3 (((twoL p.1).take t).foldl (putF l p.2 p.1.2 kv) L0) ∧ Y = Z) ⟨k0, rfl, rfl⟩ (fun t d ρ' Y hd ⟨q0, q1, q2⟩ => ?_) fun ρ' Y h => ?_)
      · obtain ⟨sm, hx3, rfl, hm3, ht0, ht3⟩ := map_get hd
        subst q1 q2
        rw [ht3, List.foldl_append]
        generalize ((twoL p.1).take t).foldl (putF l p.2 p.1.2 kv) L0 = L at *
        have smz := two sm hm3
        have nextI := put_ok (w := p.2) (hi := p.1.2) (sm := sm) q0 kvl kvs smz (by omega)
        have Ll := q0.len
        have ht2' : t < 2 := ht0
        have Ll2 : L.length ≤ 1000000 := by omega
        refine ⟨_, _, tg_tup (tgs_cons (tg_name (i := 8) (by walk_at "st")) (tgs_cons (tg_name (i := 9) (by walk_at "st")) tgs_nil)), ?_⟩
        refine exs_cons (ex_setR (i := 10) (r := .o (.l [])) (by walk_at "st") (evr_lst evs_nil) ?_ (fun _ _ => rfl))
        let ρ4 (ms : List Bool) : Rho := (((ρ3 L).set 8 (.d (.bl sm.1))).set 9 (.d (.int sm.2))).set 10 (.o (.l (ms.map .bl)))
        let mk (p' : Sale × Bool) : Bool := p'.2 || (sm.1 && (decide (p.2 ∈ p'.1.others) && decide (p'.1.price = p.1.2)))
        refine exs_cons (ex_for (B1 := Y) (ds := (l.zip kv.1).map fun p => .tup [p.1.d, .bl p.2]) (by rw [← zipD_map]; exact it_zipT rfl bl.zip (by walk_at "nm") (by walk_at "nm")) (fun u ρ V => ρ = ρ4 (((l.zip kv.1).take u).map mk) ∧ V = Y) ⟨rfl, rfl⟩ (fun u d ρ' V hd ⟨r1, r2⟩ => ?_) fun ρ' V h => ?_)
        · obtain ⟨sh, hx4, rfl, hm4, hu0, ht4⟩ := map_get hd
          subst r1 r2
          rw [ht4, List.map_append]
          have hml : (((l.zip kv.1).take u).map mk).length ≤ 1000000 := by
            rw [List.length_map, List.length_take, List.length_zip]
            omega
          generalize ((l.zip kv.1).take u).map mk = ms at *
          refine ⟨_, _, tg_tup (tgs_cons (tg_name (i := 11) (by walk_at "st")) (tgs_cons (tg_name (i := 12) (by walk_at "st")) tgs_nil)), ?_⟩
          refine exs_cons (ex_append (i := 10) (B1 := V) (y := .bl (mk sh)) rfl (by walk_at "vis") rfl (ev_orP (k := sh.2) (k' := sm.1 && (decide (p.2 ∈ sh.1.others) && decide (sh.1.price = p.1.2))) (by walk_at "nm") fun _ => ev_one (ev_andP (k := sm.1) (by walk_at "nm") fun _ => ev_andP (ev_cmp (c_inN (i := p.2) (ns := sh.1.others) rfl) (by walk_at "nm") (ev_ixN (i := 2) (by walk_at "nm") ev_int rfl rfl)) fun _ => ev_one (ev_cmp (c_eqI (i := sh.1.price) (j := p.1.2)) (ev_ixN (i := 1) (by walk_at "nm") ev_int rfl rfl) (by walk_at "nm")))) ?nx (by rw [List.length_map]; exact hml))
          refine exs_fgt (is := [11, 12]) (exs_nil ⟨?_, rfl⟩)
          show _ = ρ4 _
          dsimp only [ρ4]
          rw [List.map_append]
          rfl
        · obtain ⟨r1, r2⟩ := h
          subst r1 r2
          rw [List.length_map, List.take_length]
          have em : (l.zip kv.1).map mk = markOf l p.2 p.1.2 kv.1 sm.1 := rfl
          rw [em]
          have Lz : Sz ((tbGet L (markOf l p.2 p.1.2 kv.1 sm.1)).getD 0) (1 + 522 * i + 10 + 2 * j + t) := by
            cases hg : tbGet L (markOf l p.2 p.1.2 kv.1 sm.1) with
            | none => exact Nat.pow_pos (by omega)
            | some z => exact q0.sz _ (tbGet_mem hg)
          have hn : [sm].foldl (putF l p.2 p.1.2 kv) L = tbPut L (markOf l p.2 p.1.2 kv.1 sm.1) ((tbGet L (markOf l p.2 p.1.2 kv.1 sm.1)).getD 0 + sm.2 * kv.2) := rfl
          have nI : TbI l.length (2 * j + t + 1) (1 + 522 * i + 10 + 2 * j + t + 1) ([sm].foldl (putF l p.2 p.1.2 kv) L) := nextI
          generalize hmk : markOf l p.2 p.1.2 kv.1 sm.1 = mks at *
          refine exs_fz (i := 10) rfl (exs_cons (ex_tbPut (i := 4) (kvs := L) (ks := mks) (v := (tbGet L mks).getD 0 + sm.2 * kv.2) (B1 := V) (B2 := V) rfl (by walk_at "vis") rfl (ev_borrowI (ev_bin b_add (ev_tbGet (kvs := L) (ks := mks) (by walk_at "nm") (ev_tuple bl (x := .lst (mks.map .bl)) (by walk_at "nm") rfl) ev_int) (ev_bin (b_mulW (wide_mul (a := 10) (b := 1 + 522 * i + 10) smz (kvs.mono (by omega)) (by omega) (by omega) (by omega))) (by walk_at "nm") (ev_tbIx (kvs := G) (ks := kv.1) (by walk_at "nm") (by walk_at "nm") kvg)))) (ev_tuple bl (x := .lst (mks.map .bl)) (by walk_at "nm") rfl) Ll2 ?_))
          refine exs_fgt (is := [8, 9, 10]) (exs_nil ⟨nI, ?_, rfl⟩)
          rw [hn]
          rfl
      · obtain ⟨q0, q1, q2⟩ := h
        subst q1 q2
        rw [List.length_map, List.take_length] at *
        exact exs_fgt (is := [5]) (exs_nil ⟨q0, rfl, rfl⟩)
    · obtain ⟨k0, k1, k2⟩ := h
      subst k1 k2
      rw [List.length_map, List.take_length]
      have es : G.foldl (kvF l p.2 p.1) [] = lwStep l G p := rfl
      rw [es]
      refine exs_fz (i := 4) rfl (exs_cons (ex_set (i := 2) (x := .dtb T.P T.w (lwStep l G p)) (B1 := Z) (by walk_at "st") (by walk_at "nm") ?_ (fun _ _ => rfl)))
      refine exs_fgt (is := [3, 6, 7, 4]) (exs_nil ⟨fun q hq => ?_, rfl, rfl⟩)
      rcases List.mem_append.mp hq with hq | hq
      · exact g0 q hq
      · rw [List.mem_singleton.mp hq]
        exact hle
  · obtain ⟨g0, g1, g2⟩ := h
    subst g1 g2
    rw [List.length_map, List.take_length] at g0 ⊢
    have e : lways l bs = (tbGet (bs.zipIdx.foldl (lwStep l) (lwInit l.length)) (List.replicate l.length true)).getD 0 := by
      unfold lways
      rw [if_pos]
      refine List.all_eq_true.mpr fun b hb => ?_
      obtain ⟨i, hi, e⟩ := List.mem_iff_getElem.mp hb
      exact decide_eq_true (g0 (b, i) (List.mem_iff_getElem?.mpr ⟨i, by rw [List.getElem?_zipIdx, List.getElem?_eq_getElem hi]; simp [e]⟩))
    rw [e]
    refine exs_one (ex_ret (r := .d (.int ((tbGet (bs.zipIdx.foldl (lwStep l) (lwInit l.length)) (List.replicate l.length true)).getD 0))) ?_ ⟨rfl, rfl⟩)
    exact ev_tbGet (kvs := bs.zipIdx.foldl (lwStep l) (lwInit l.length)) (ks := List.replicate l.length true) (by walk_at "nm") (EvR.to (ev_bin (b_repT ll) (ev_tup (evs_cons ev_bl evs_nil)) (ev_len bl (x := logD l) (by walk_at "nm") rfl)) (rep true)) ev_int
/-! ### what _law_ways computes -/
def tbV (G : List Bool → Int) (F : List (List Bool × Int)) : Int := (F.map fun kv => kv.2 * G kv.1).sum
theorem tbV_app (G : List Bool → Int) (F F' : List (List Bool × Int)) : tbV G (F ++ F') = tbV G F + tbV G F' := by
  unfold tbV
  rw [List.map_append, List.sum_append]
theorem tbV_put (G : List Bool → Int) (ks : List Bool) (c : Int) : ∀ F : List (List Bool × Int), (F.map (·.1)).Nodup → tbV G (tbPut F ks ((tbGet F ks).getD 0 + c)) = tbV G F + c * G ks := by
  intro F nd
  unfold tbPut
  cases hg : tbGet F ks with
  | none =>
    rw [if_neg (by simp), tbV_app]
    show tbV G F + (((0 + c) * G ks) + 0) = _
    rw [Int.zero_add, Int.add_zero]
  | some j =>
    rw [if_pos (show (some j).isSome = true from rfl)]
    show tbV G (F.map fun kv => if kv.1 = ks then (kv.1, j + c) else kv) = _
    induction F with
    | nil => cases hg
    | cons x F ih =>
      rw [List.map_cons, List.nodup_cons] at nd
      unfold tbV at ih ⊢
      rw [List.map_cons, List.map_cons, List.sum_cons, List.map_cons, List.sum_cons]
      by_cases e : x.1 = ks
      · have hx : x.2 = j := by
          unfold tbGet at hg
          rw [List.find?_cons_of_pos (by simp [e])] at hg
          exact Option.some.inj hg
        rw [if_pos e]
        have hr : (F.map fun kv => if kv.1 = ks then (kv.1, j + c) else kv) = F := by
          have : F.map (fun kv => if kv.1 = ks then (kv.1, j + c) else kv) = F.map id := List.map_congr_left fun kv hk => by
            rw [if_neg fun z => nd.1 (List.mem_map.mpr ⟨kv, hk, z.trans e.symm⟩)]
            rfl
          rw [this, List.map_id]
        rw [hr, hx, e]
        show (j + c) * G ks + (F.map fun kv => kv.2 * G kv.1).sum = j * G ks + (F.map fun kv => kv.2 * G kv.1).sum + c * G ks
        rw [Int.add_mul]
        omega
      · rw [if_neg e]
        have hg' : tbGet F ks = some j := by
          unfold tbGet at hg ⊢
          rw [List.find?_cons_of_neg (by simpa using e)] at hg
          exact hg
        rw [ih nd.2 hg']
        omega
theorem putF_keys {l : List Sale} {w : Nat} {hi : Int} {kv : List Bool × Int} {L : List (List Bool × Int)} {sm : Bool × Int} (nd : (L.map (·.1)).Nodup) : ((putF l w hi kv L sm).map (·.1)).Nodup := tbPut_keys nd
theorem kvF_V {l : List Sale} {w : Nat} {b : Int × Int} {kv : List Bool × Int} {L : List (List Bool × Int)} (G : List Bool → Int) (nd : (L.map (·.1)).Nodup) : tbV G (kvF l w b L kv) = tbV G L + (1 * kv.2) * G (markOf l w b.2 kv.1 true) + ((b.2 - b.1) * kv.2) * G (markOf l w b.2 kv.1 false) := by
  show tbV G (putF l w b.2 kv (putF l w b.2 kv L (true, 1)) (false, b.2 - b.1)) = _
  have n1 : ((putF l w b.2 kv L (true, 1)).map (·.1)).Nodup := putF_keys nd
  have e1 := tbV_put G (markOf l w b.2 kv.1 true) (1 * kv.2) L nd
  have e2 := tbV_put G (markOf l w b.2 kv.1 false) ((b.2 - b.1) * kv.2) _ n1
  show tbV G (tbPut (putF l w b.2 kv L (true, 1)) (markOf l w b.2 kv.1 false) ((tbGet (putF l w b.2 kv L (true, 1)) (markOf l w b.2 kv.1 false)).getD 0 + (b.2 - b.1) * kv.2)) = _
  rw [e2]
  show tbV G (tbPut L (markOf l w b.2 kv.1 true) ((tbGet L (markOf l w b.2 kv.1 true)).getD 0 + 1 * kv.2)) + _ = _
  rw [e1]
theorem kvF_keys {l : List Sale} {w : Nat} {b : Int × Int} {kv : List Bool × Int} {L : List (List Bool × Int)} (nd : (L.map (·.1)).Nodup) : ((kvF l w b L kv).map (·.1)).Nodup := putF_keys (putF_keys nd)
theorem kvs_V {l : List Sale} {w : Nat} {b : Int × Int} (G : List Bool → Int) : ∀ (F L : List (List Bool × Int)), (L.map (·.1)).Nodup → tbV G (F.foldl (kvF l w b) L) = tbV G L + (F.map fun kv => kv.2 * (G (markOf l w b.2 kv.1 true) + (b.2 - b.1) * G (markOf l w b.2 kv.1 false))).sum ∧ ((F.foldl (kvF l w b) L).map (·.1)).Nodup
  | [], L, nd => ⟨by simp, nd⟩
  | kv :: F, L, nd => by
    obtain ⟨h1, h2⟩ := kvs_V G F (kvF l w b L kv) (kvF_keys nd)
    rw [List.foldl_cons]
    refine ⟨?_, h2⟩
    rw [h1, kvF_V G nd, List.map_cons, List.sum_cons, Int.one_mul, Int.mul_add, Int.mul_assoc, Int.mul_left_comm kv.2]
    omega
def qM (l : List Sale) (bs : List (Int × Int)) (m : List Bool) (S : Nat → Bool) : Bool := (l.zip m).all fun p => p.2 || (settersOf p.1 bs).any S
theorem mark_false {l : List Sale} {w : Nat} {hi : Int} : ∀ {m : List Bool}, m.length = l.length → markOf l w hi m false = m := by
  induction l with
  | nil =>
    intro m h
    rw [List.length_eq_zero_iff.mp h]
    rfl
  | cons s l ih =>
    intro m h
    cases m with
    | nil => cases h
    | cons b m =>
      have := ih (m := m) (by simpa using h)
      unfold markOf at this ⊢
      rw [List.zip_cons_cons, List.map_cons, this]
      simp
theorem qM_ins {l : List Sale} {bs : List (Int × Int)} {w : Nat} (S : Nat → Bool) : ∀ {m : List Bool}, m.length = l.length → qM l bs (markOf l w (hiOf bs w) m true) S = qM l bs m (ins w S) := by
  induction l with
  | nil => intro m _; rfl
  | cons s l ih =>
    intro m h
    cases m with
    | nil => cases h
    | cons b m =>
      have := ih (m := m) (by simpa using h)
      unfold qM markOf at this ⊢
      rw [List.zip_cons_cons, List.map_cons, List.zip_cons_cons, List.all_cons, List.all_cons, this]
      congr 1
      show (b || (true && (decide (w ∈ s.others) && decide (s.price = hiOf bs w))) || (settersOf s bs).any S) = (b || (settersOf s bs).any (ins w S))
      rw [Bool.true_and, Bool.or_assoc]
      congr 1
      rw [Bool.eq_iff_iff, Bool.or_eq_true, Bool.and_eq_true, decide_eq_true_eq, decide_eq_true_eq, List.any_eq_true, List.any_eq_true]
      constructor
      · rintro (⟨h1, h2⟩ | ⟨x, h1, h2⟩)
        · exact ⟨w, List.mem_filter.mpr ⟨h1, by simp [h2]⟩, by unfold ins; simp⟩
        · exact ⟨x, h1, by unfold ins; rw [h2, Bool.or_true]⟩
      · rintro ⟨x, h1, h2⟩
        unfold ins at h2
        rw [Bool.or_eq_true, decide_eq_true_eq] at h2
        rcases h2 with rfl | h2
        · have h3 := List.mem_filter.mp h1
          exact .inl ⟨h3.1, by have := h3.2; simp at this; exact this.symm⟩
        · exact .inr ⟨x, h1, h2⟩
theorem lw_V {l : List Sale} {bs : List (Int × Int)} : ∀ (zs : List ((Int × Int) × Nat)) (F : List (List Bool × Int)), (∀ z ∈ zs, hiOf bs z.2 = z.1.2 ∧ loOf bs z.2 = z.1.1) → (F.map (·.1)).Nodup → (∀ kv ∈ F, kv.1.length = l.length) →
    tbV (fun m => W (spanOf bs) (zs.map (·.2)) (qM l bs m)) F = tbV (fun m => W (spanOf bs) [] (qM l bs m)) (zs.foldl (lwStep l) F) ∧ ((zs.foldl (lwStep l) F).map (·.1)).Nodup ∧ ∀ kv ∈ zs.foldl (lwStep l) F, kv.1.length = l.length
  | [], F, _, nd, hl => ⟨rfl, nd, hl⟩
  | z :: zs, F, hz, nd, hl => by
    obtain ⟨z1, z2⟩ := hz z List.mem_cons_self
    obtain ⟨v1, v2⟩ := kvs_V (l := l) (w := z.2) (b := z.1) (fun m => W (spanOf bs) (zs.map (·.2)) (qM l bs m)) F [] List.nodup_nil
    have hkl : ∀ kv ∈ lwStep l F z, kv.1.length = l.length := by
      have go : ∀ (F L : List (List Bool × Int)), (∀ kv ∈ F, kv.1.length = l.length) → (∀ kv ∈ L, kv.1.length = l.length) → ∀ kv ∈ F.foldl (kvF l z.2 z.1) L, kv.1.length = l.length := by
        intro F
        induction F with
        | nil => exact fun L _ h => h
        | cons x F ih =>
          intro L hF hL
          rw [List.foldl_cons]
          refine ih _ (fun kv hk => hF kv (List.mem_cons_of_mem _ hk)) fun kv hk => ?_
          have hx := hF x List.mem_cons_self
          rcases tbPut_mem (show kv ∈ tbPut _ _ _ from hk) with h1 | rfl
          · rcases tbPut_mem (show kv ∈ tbPut _ _ _ from h1) with h1 | rfl
            · exact hL kv h1
            · exact mark_len hx
          · exact mark_len hx
      exact go F [] hl fun kv h => (nomatch h)
    obtain ⟨i1, i2, i3⟩ := lw_V (l := l) (bs := bs) zs (lwStep l F z) (fun x hx => hz x (List.mem_cons_of_mem _ hx)) v2 hkl
    rw [List.foldl_cons]
    refine ⟨?_, i2, i3⟩
    rw [← i1]
    show _ = tbV _ (F.foldl (kvF l z.2 z.1) [])
    rw [v1]
    show (F.map fun kv => kv.2 * W (spanOf bs) (z.2 :: zs.map (·.2)) (qM l bs kv.1)).sum = 0 + _
    rw [Int.zero_add]
    refine congrArg List.sum (List.map_congr_left fun kv hk => ?_)
    congr 1
    have hlk := hl kv hk
    show W (spanOf bs) (zs.map (·.2)) (fun S => qM l bs kv.1 (ins z.2 S)) + spanOf bs z.2 * W (spanOf bs) (zs.map (·.2)) (qM l bs kv.1) = _
    have e1 : (fun S => qM l bs kv.1 (ins z.2 S)) = qM l bs (markOf l z.2 z.1.2 kv.1 true) := by
      funext S
      rw [← z1]
      exact (qM_ins S hlk).symm
    rw [e1, mark_false hlk]
    unfold spanOf
    rw [z1, z2]
theorem qM_all {l : List Sale} {bs : List (Int × Int)} : qM l bs (List.replicate l.length false) = setQ l bs := by
  funext S
  unfold qM setQ
  have e : l.zip (List.replicate l.length false) = l.map fun s => (s, false) := by
    induction l with
    | nil => rfl
    | cons s l ih => rw [List.length_cons, List.replicate_succ, List.zip_cons_cons, ih, List.map_cons]
  rw [e, List.all_map]
  rfl
theorem qM_none {l : List Sale} {bs : List (Int × Int)} {m : List Bool} (h : m.length = l.length) : qM l bs m (fun _ => false) = decide (m = List.replicate l.length true) := by
  unfold qM
  have e0 : ∀ s : Sale, (settersOf s bs).any (fun _ => false) = false := fun s => List.any_eq_false.mpr fun _ _ => Bool.false_ne_true
  induction l generalizing m with
  | nil =>
    rw [List.length_eq_zero_iff.mp h]
    rfl
  | cons s l ih =>
    cases m with
    | nil => cases h
    | cons b m =>
      rw [List.zip_cons_cons, List.all_cons, ih (by simpa using h), List.length_cons, List.replicate_succ, e0, Bool.or_false]
      cases b <;> simp
theorem lw_eq {l : List Sale} {bs : List (Int × Int)} (hall : bs.all (fun b => decide (b.1 ≤ b.2)) = true) : lways l bs = W (spanOf bs) (List.range bs.length) (setQ l bs) := by
  unfold lways
  rw [if_pos hall]
  obtain ⟨h1, h2, h3⟩ := lw_V (l := l) (bs := bs) bs.zipIdx (lwInit l.length) (fun z hz => by
    have hg : bs[z.2]? = some z.1 := by
      obtain ⟨k, hk⟩ := List.mem_iff_getElem?.mp hz
      rw [List.getElem?_zipIdx] at hk
      cases hg : bs[k]? with
      | none => rw [hg] at hk; cases hk
      | some x =>
        rw [hg] at hk
        simp at hk
        rw [← hk]
        exact hg
    unfold hiOf loOf
    rw [List.getD_eq_getElem?_getD, hg]
    exact ⟨rfl, rfl⟩) (by simp [lwInit]) fun kv hk => by
      have : kv = (List.replicate l.length false, 1) := by simpa [lwInit] using hk
      rw [this]
      simp
  have e1 : tbV (fun m => W (spanOf bs) (bs.zipIdx.map (·.2)) (qM l bs m)) (lwInit l.length) = W (spanOf bs) (List.range bs.length) (setQ l bs) := by
    show 1 * W (spanOf bs) (bs.zipIdx.map (·.2)) (qM l bs (List.replicate l.length false)) + 0 = _
    rw [Int.one_mul, Int.add_zero, qM_all]
    congr 1
    exact (List.zipIdx_map_snd 0 bs).trans (by rw [List.range_eq_range'])
  rw [← e1, h1]
  generalize bs.zipIdx.foldl (lwStep l) (lwInit l.length) = F at *
  have e2 : tbV (fun m => W (spanOf bs) [] (qM l bs m)) F = (F.map fun kv => if kv.1 = List.replicate l.length true then kv.2 else 0).sum := by
    unfold tbV
    refine congrArg List.sum (List.map_congr_left fun kv hk => ?_)
    show kv.2 * (if qM l bs kv.1 (fun _ => false) then 1 else 0) = _
    rw [qM_none (h3 kv hk)]
    by_cases e : kv.1 = List.replicate l.length true
    · rw [if_pos e, decide_eq_true e, if_pos rfl, Int.mul_one]
    · rw [if_neg e, decide_eq_false e, if_neg Bool.false_ne_true, Int.mul_zero]
  rw [e2]
  generalize List.replicate l.length true = K
  clear h1 h3 e1 e2
  induction F with
  | nil => rfl
  | cons x F ih =>
    rw [List.map_cons, List.nodup_cons] at h2
    rw [List.map_cons, List.sum_cons]
    by_cases e : x.1 = K
    · have hz : (F.map fun kv => if kv.1 = K then kv.2 else 0).sum = 0 := sum_zero fun kv hk => if_neg fun z => h2.1 (List.mem_map.mpr ⟨kv, hk, z.trans e.symm⟩)
      rw [if_pos e, hz]
      unfold tbGet
      rw [List.find?_cons_of_pos (by simp [e])]
      simp
    · rw [if_neg e, ← ih h2.2]
      unfold tbGet
      rw [List.find?_cons_of_neg (by simpa using e)]
      omega
theorem W_false (d : Nat → Int) : ∀ ps : List Nat, W d ps (fun _ => false) = 0
  | [] => rfl
  | p :: ps => by
    show W d ps (fun _ => false) + d p * W d ps (fun _ => false) = 0
    rw [W_false d ps, Int.mul_zero]
    rfl
/-- _law_ways answers what ways answers -/
theorem lw_ways {folk : Nat} {l : List Sale} {bs : List (Int × Int)} (hl : bs.length = folk) (hs : ∀ s ∈ l, ∀ w ∈ s.others, w < folk) : lways l bs = waysF folk l bs := by
  have ea : bs.all (fun b => decide (b.1 ≤ b.2)) = (bs.map fun b => decide (b.1 ≤ b.2)).all id := by rw [List.all_map]; rfl
  unfold waysF okB
  cases h1 : bs.all (fun b => decide (b.1 ≤ b.2)) with
  | false =>
    rw [← ea, h1, Bool.false_and, if_neg Bool.false_ne_true]
    unfold lways
    rw [h1, if_neg Bool.false_ne_true]
  | true =>
    rw [← ea, h1, Bool.true_and, lw_eq h1, hl]
    cases h2 : (l.map fun s => !decide (settersOf s bs = [])).all id with
    | true => rw [if_pos rfl, ways_W hs, W_perm (spanOf bs) (List.reverse_perm (List.range folk))]
    | false =>
      rw [if_neg Bool.false_ne_true]
      obtain ⟨x, hx, hf⟩ := List.all_eq_false.mp h2
      obtain ⟨s, hsl, rfl⟩ := List.mem_map.mp hx
      have hse : settersOf s bs = [] := by simpa using hf
      have e : setQ l bs = fun _ => false := by
        funext S
        unfold setQ
        refine List.all_eq_false.mpr ⟨s, hsl, ?_⟩
        rw [hse]
        exact Bool.false_ne_true
      rw [e, W_false]
/-! ### what the worths say: the windows, the setters, the gains, the fewest -/
section
variable {folk top : Nat} {l : List Sale}
theorem every_nil (ok : LogOk folk (top : Nat) l) : (!decide ((everyL top folk).filter (fitB l) = [])) = canBe folk (top : Nat) l := by
  cases hc : canBe folk (top : Nat) l with
  | true =>
    obtain ⟨ws, W⟩ := (canBe_iff ok).mp hc
    have := (every_worths ok).mpr W
    cases he : (everyL top folk).filter (fitB l) with
    | nil => rw [he] at this; cases this
    | cons a b => simp
  | false =>
    cases he : (everyL top folk).filter (fitB l) with
    | nil => simp
    | cons a b =>
      have := (canBe_iff ok).mpr ⟨a, (every_worths ok).mp (by rw [he]; exact List.mem_cons_self)⟩
      rw [hc] at this
      cases this
theorem none_fit (ok : LogOk folk (top : Nat) l) (hc : canBe folk (top : Nat) l = false) : (everyL top folk).filter (fitB l) = [] := by
  have := every_nil ok
  rw [hc] at this
  simpa using this
theorem some_fit (ok : LogOk folk (top : Nat) l) (hc : canBe folk (top : Nat) l = true) : (everyL top folk).filter (fitB l) ≠ [] := by
  have := every_nil ok
  rw [hc] at this
  simpa using this
/-- a fitting worths from a function -/
theorem mk_in (ok : LogOk folk (top : Nat) l) (f : Nat → Int) (h : ∀ w, w < folk → wonAt l w ≤ f w ∧ f w ≤ lostAt (top : Nat) l w) (hs : ∀ s ∈ l, ∃ w ∈ s.others, f w = s.price) : mkWs folk f ∈ (everyL top folk).filter (fitB l) ∧ ∀ w, w < folk → wAt (mkWs folk f) w = f w := by
  refine ⟨(every_worths ok).mpr (worths_mk ok f h hs), fun w hw => ?_⟩
  unfold wAt mkWs
  rw [List.getD_eq_getElem?_getD, List.getElem?_map, List.getElem?_range hw]
  rfl
theorem hi_in (ok : LogOk folk (top : Nat) l) (hc : canBe folk (top : Nat) l = true) : mkWs folk (lostAt (top : Nat) l) ∈ (everyL top folk).filter (fitB l) ∧ ∀ w, w < folk → wAt (mkWs folk (lostAt (top : Nat) l)) w = lostAt (top : Nat) l w := by
  have hs := canBe_spec hc
  refine mk_in ok _ (fun w hw => ⟨hs.1 w hw, Int.le_refl _⟩) fun s hs' => ?_
  obtain ⟨w, hw⟩ := hs.2 s hs'
  have := (setter_mem ok hs').mp hw
  exact ⟨w, this.1, this.2⟩
theorem alone_iff {bs : List (Int × Int)} {w : Nat} : aloneB l bs w = true ↔ ∃ s ∈ l, settersOf s bs = [w] := by
  unfold aloneB
  rw [List.any_eq_true]
  constructor
  · rintro ⟨x, hx, e⟩
    obtain ⟨s, hs, rfl⟩ := List.mem_map.mp hx
    exact ⟨s, hs, of_decide_eq_true e⟩
  · rintro ⟨s, hs, e⟩
    exact ⟨true, List.mem_map.mpr ⟨s, hs, decide_eq_true e⟩, rfl⟩
/-- who sets alone is at the upper end -/
theorem alone_hi (ok : LogOk folk (top : Nat) l) {w : Nat} (ha : aloneB l (boundsOf folk (top : Nat) l) w = true) {ws : List Int} (W : Worths folk (top : Nat) l ws) : wAt ws w = lostAt (top : Nat) l w := by
  obtain ⟨s, hs, e⟩ := alone_iff.mp ha
  have so := ok.ok s hs
  have hne : s.others.map (wAt ws) ≠ [] := fun z => so.ne (List.map_eq_nil_iff.mp z)
  obtain ⟨v, hv, e2⟩ := List.mem_map.mp (maxL_spec hne).1
  rw [(W.fit s hs).mx] at e2
  have h1 := W.lost (so.lt v hv)
  have h2 := lost_le (top := (top : Nat)) hs hv
  have h3 : v ∈ settersOf s (boundsOf folk (top : Nat) l) := (setter_mem ok hs).mpr ⟨hv, by omega⟩
  rw [e, List.mem_singleton] at h3
  subst h3
  omega
/-- who doesn't set alone may be at the lower end -/
theorem low_in (ok : LogOk folk (top : Nat) l) (hc : canBe folk (top : Nat) l = true) {w : Nat} (ha : aloneB l (boundsOf folk (top : Nat) l) w = false) : ∃ ws ∈ (everyL top folk).filter (fitB l), (w < folk → wAt ws w = wonAt l w) := by
  have hcs := canBe_spec hc
  have h := mk_in ok (fun v => if v = w then wonAt l v else lostAt (top : Nat) l v) (fun v hv => by
    have := hcs.1 v hv
    show wonAt l v ≤ (if v = w then wonAt l v else lostAt (top : Nat) l v) ∧ (if v = w then wonAt l v else lostAt (top : Nat) l v) ≤ lostAt (top : Nat) l v
    split <;> omega) fun s hs => by
    obtain ⟨v, hv⟩ := hcs.2 s hs
    have hx : ∃ u ∈ settersOf s (boundsOf folk (top : Nat) l), u ≠ w := by
      refine Classical.byContradiction fun hn => ?_
      have hall : ∀ u ∈ settersOf s (boundsOf folk (top : Nat) l), u = w := fun u hu => Classical.byContradiction fun hne => hn ⟨u, hu, hne⟩
      have hnd : (settersOf s (boundsOf folk (top : Nat) l)).Nodup := (List.Pairwise.imp (fun h => Nat.ne_of_lt h) (ok.ok s hs).up).filter _
      have hone : settersOf s (boundsOf folk (top : Nat) l) = [w] := by
        cases hset : settersOf s (boundsOf folk (top : Nat) l) with
        | nil => rw [hset] at hv; cases hv
        | cons a as =>
          rw [hset] at hall hnd
          have ha := hall a List.mem_cons_self
          cases as with
          | nil => rw [ha]
          | cons b bs =>
            have hb := hall b (List.mem_cons_of_mem _ List.mem_cons_self)
            exact absurd (List.mem_cons.mpr (.inl (ha.trans hb.symm))) (List.nodup_cons.mp hnd).1
      have := alone_iff.mpr ⟨s, hs, hone⟩
      rw [ha] at this
      cases this
    obtain ⟨u, hu, hne⟩ := hx
    have := (setter_mem ok hs).mp hu
    exact ⟨u, this.1, by show (if u = w then wonAt l u else lostAt (top : Nat) l u) = _; rw [if_neg hne]; exact this.2⟩
  exact ⟨_, h.1, fun hw => by rw [h.2 w hw, if_pos rfl]⟩
theorem zip_range {α : Type} (f : Nat → α) (n : Nat) : ((List.range n).map f).zipIdx = (List.range n).map fun w => (f w, w) := by
  refine List.ext_getElem? fun i => ?_
  rw [List.getElem?_zipIdx, List.getElem?_map, List.getElem?_map]
  by_cases h : i < n
  · rw [List.getElem?_range h]
    simp
  · rw [List.getElem?_eq_none (by rw [List.length_range]; omega)]
    rfl
theorem worths_eq : worthsF l (boundsOf folk (top : Nat) l) = (List.range folk).map fun w => (if aloneB l (boundsOf folk (top : Nat) l) w then lostAt (top : Nat) l w else wonAt l w, lostAt (top : Nat) l w) := by
  generalize hb : boundsOf folk (top : Nat) l = bs
  have e : bs.zipIdx = (List.range folk).map fun w => ((wonAt l w, lostAt (top : Nat) l w), w) := by
    rw [← hb]
    exact zip_range _ _
  unfold worthsF
  rw [e, List.map_map]
  rfl
theorem most_from : mostOf l (boundsOf folk (top : Nat) l) (boughtOf folk l) = ((List.range folk).map fun w => (cnt l w : Int) * lostAt (top : Nat) l w).sum - paidOf l := by
  unfold mostOf boughtOf boundsOf
  rw [List.zip_map', List.map_map]
  rfl
theorem gain_sum (ok : LogOk folk (top : Nat) l) (ws : List Int) : gainOf l ws = ((List.range folk).map fun w => (cnt l w : Int) * wAt ws w).sum - paidOf l := by
  unfold gainOf paidOf
  rw [sum_sub, cnt_sum (wAt ws) fun s hs => (ok.ok s hs).win]
theorem gain_le (ok : LogOk folk (top : Nat) l) {ws ws' : List Int} (h : ∀ w, w < folk → wAt ws w ≤ wAt ws' w) : gainOf l ws ≤ gainOf l ws' := by
  unfold gainOf
  refine sum_le fun s hs => ?_
  have := h s.win (ok.ok s hs).win
  omega
end
/-! ### k04: the windows, the sets, the gains -/
def setW (ws : List Int) (w : Nat) (x : Int) : List Int := ws.take w ++ [x] ++ ws.drop (w + 1)
theorem setW_eq {ws : List Int} {w : Nat} {x : Int} (h : w < ws.length) : setW ws w x = ws.set w x := by
  unfold setW
  rw [List.set_eq_take_append_cons_drop, if_pos h, List.append_assoc]
  rfl
theorem setW_len {ws : List Int} {w : Nat} {x : Int} (h : w < ws.length) : (setW ws w x).length = ws.length := by rw [setW_eq h, List.length_set]
theorem setW_at {ws : List Int} {w v : Nat} {x : Int} (h : w < ws.length) : wAt (setW ws w x) v = if v = w then x else wAt ws v := by
  rw [setW_eq h]
  unfold wAt
  rw [List.getD_eq_getElem?_getD, List.getD_eq_getElem?_getD, List.getElem?_set]
  by_cases e : w = v
  · subst e
    rw [if_pos rfl, if_pos h, if_pos rfl]
    rfl
  · rw [if_neg e, if_neg fun z => e z.symm]
section
variable {folk top : Nat} {l : List Sale} {ws : List Int}
def highL (folk top : Nat) (l : List Sale) : List Int := (boundsOf folk (top : Nat) l).map (·.2)
theorem high_mk : highL folk top l = mkWs folk (lostAt (top : Nat) l) := by
  unfold highL boundsOf mkWs
  rw [List.map_map]
  rfl
theorem high_len : (highL folk top l).length = folk := by unfold highL; rw [List.length_map, bounds_len]
theorem high_at {w : Nat} (hw : w < folk) : wAt (highL folk top l) w = lostAt (top : Nat) l w := by rw [high_mk, mkWs_at hw]
theorem fit_of (ok : LogOk folk (top : Nat) l) {ws : List Int} (h : ∀ w, w < folk → wonAt l w ≤ wAt ws w ∧ wAt ws w ≤ lostAt (top : Nat) l w) (hs : ∀ s ∈ l, ∃ w ∈ s.others, wAt ws w = s.price) : fitB l ws = true := fitB_iff.mpr fun s hs' => by
  have so := ok.ok s hs'
  obtain ⟨w, h1, h2⟩ := hs s hs'
  refine ⟨(maxL_eq (List.mem_map.mpr ⟨w, h1, h2⟩) fun y hy => ?_).symm, ?_⟩
  · obtain ⟨v, hv, rfl⟩ := List.mem_map.mp hy
    have g1 := (h v (so.lt v hv)).2
    have g2 := lost_le (top := (top : Nat)) hs' hv
    omega
  · have g1 := (h s.win so.win).1
    have g2 := won_ge hs'
    omega
theorem high_fit (ok : LogOk folk (top : Nat) l) (hc : canBe folk (top : Nat) l = true) : fitB l (highL folk top l) = true := by
  have hcs := canBe_spec hc
  refine fit_of ok (fun w hw => by rw [high_at hw]; exact ⟨hcs.1 w hw, Int.le_refl _⟩) fun s hs => ?_
  obtain ⟨w, hw⟩ := hcs.2 s hs
  have := (setter_mem ok hs).mp hw
  exact ⟨w, this.1, by rw [high_at ((ok.ok s hs).lt w this.1)]; exact this.2⟩
def lowOf (folk top : Nat) (l : List Sale) (w : Nat) : Int := if aloneB l (boundsOf folk (top : Nat) l) w then lostAt (top : Nat) l w else wonAt l w
/-- not alone: another setter for each sale -/
theorem other_setter (ok : LogOk folk (top : Nat) l) (hc : canBe folk (top : Nat) l = true) {w : Nat} (ha : aloneB l (boundsOf folk (top : Nat) l) w = false) {s : Sale} (hs : s ∈ l) : ∃ u ∈ settersOf s (boundsOf folk (top : Nat) l), u ≠ w := by
  obtain ⟨v, hv⟩ := (canBe_spec hc).2 s hs
  refine Classical.byContradiction fun hn => ?_
  have hall : ∀ u ∈ settersOf s (boundsOf folk (top : Nat) l), u = w := fun u hu => Classical.byContradiction fun hne => hn ⟨u, hu, hne⟩
  have hnd : (settersOf s (boundsOf folk (top : Nat) l)).Nodup := (List.Pairwise.imp (fun h => Nat.ne_of_lt h) (ok.ok s hs).up).filter _
  have hone : settersOf s (boundsOf folk (top : Nat) l) = [w] := by
    cases hset : settersOf s (boundsOf folk (top : Nat) l) with
    | nil => rw [hset] at hv; cases hv
    | cons a as =>
      rw [hset] at hall hnd
      have ha := hall a List.mem_cons_self
      cases as with
      | nil => rw [ha]
      | cons b bs =>
        have hb := hall b (List.mem_cons_of_mem _ List.mem_cons_self)
        exact absurd (List.mem_cons.mpr (.inl (ha.trans hb.symm))) (List.nodup_cons.mp hnd).1
  have := alone_iff.mpr ⟨s, hs, hone⟩
  rw [ha] at this
  cases this
theorem low_fit (ok : LogOk folk (top : Nat) l) (hc : canBe folk (top : Nat) l = true) {w : Nat} (hw : w < folk) : fitB l (setW (highL folk top l) w (lowOf folk top l w)) = true := by
  have hcs := canBe_spec hc
  have hlen : w < (highL folk top l).length := by rw [high_len]; exact hw
  unfold lowOf
  cases ha : aloneB l (boundsOf folk (top : Nat) l) w with
  | true =>
    rw [if_pos rfl]
    have e : setW (highL folk top l) w (lostAt (top : Nat) l w) = highL folk top l := by
      rw [setW_eq hlen, ← high_at hw]
      have : wAt (highL folk top l) w = (highL folk top l)[w] := by unfold wAt; rw [List.getD_eq_getElem?_getD, List.getElem?_eq_getElem hlen]; rfl
      rw [this]
      exact List.set_getElem_self hlen
    rw [e]
    exact high_fit ok hc
  | false =>
    rw [if_neg Bool.false_ne_true]
    refine fit_of ok (fun v hv => ?_) fun s hs => ?_
    · rw [setW_at hlen, high_at hv]
      have := hcs.1 v hv
      by_cases e : v = w
      · rw [if_pos e, ← e]
        omega
      · rw [if_neg e]
        omega
    · obtain ⟨u, hu, hne⟩ := other_setter ok hc ha hs
      have := (setter_mem ok hs).mp hu
      exact ⟨u, this.1, by rw [setW_at hlen, if_neg hne, high_at ((ok.ok s hs).lt u this.1)]; exact this.2⟩
theorem low_least (ok : LogOk folk (top : Nat) l) (hc : canBe folk (top : Nat) l = true) {w : Nat} (hw : w < folk) (h1 : 1 < lowOf folk top l w) : fitB l (setW (highL folk top l) w (lowOf folk top l w - 1)) = false := by
  have hlen : w < (highL folk top l).length := by rw [high_len]; exact hw
  cases hf : fitB l (setW (highL folk top l) w (lowOf folk top l w - 1)) with
  | false => rfl
  | true =>
    have h := fitB_iff.mp hf
    unfold lowOf at h h1
    cases ha : aloneB l (boundsOf folk (top : Nat) l) w with
    | true =>
      rw [ha, if_pos rfl] at h h1
      obtain ⟨s, hs, e⟩ := alone_iff.mp ha
      have so := ok.ok s hs
      have hne : s.others.map (wAt (setW (highL folk top l) w (lostAt (top : Nat) l w - 1))) ≠ [] := fun z => so.ne (List.map_eq_nil_iff.mp z)
      obtain ⟨v, hv, e2⟩ := List.mem_map.mp (maxL_spec hne).1
      rw [(h s hs).mx, setW_at hlen] at e2
      have g2 := lost_le (top := (top : Nat)) hs hv
      have hwm : w ∈ settersOf s (boundsOf folk (top : Nat) l) := by rw [e]; exact List.mem_singleton.mpr rfl
      have g3 := (setter_mem ok hs).mp hwm
      by_cases ev : v = w
      · rw [if_pos ev] at e2
        omega
      · rw [if_neg ev, high_at (so.lt v hv)] at e2
        have : v ∈ settersOf s (boundsOf folk (top : Nat) l) := (setter_mem ok hs).mpr ⟨hv, e2⟩
        rw [e, List.mem_singleton] at this
        exact absurd this ev
    | false =>
      rw [ha, if_neg Bool.false_ne_true] at h h1
      rcases maxO_spec (ns := (l.filter fun s => decide (s.win = w)).map Sale.price) (d := 1) with ⟨_, z⟩ | ⟨z, _⟩
      · unfold wonAt at h1
        omega
      · obtain ⟨s, hs, e⟩ := List.mem_map.mp z
        have hs' := List.mem_filter.mp hs
        have hsw : s.win = w := by simpa using hs'.2
        have := (h s hs'.1).wn
        rw [hsw, setW_at hlen, if_pos rfl] at this
        have e' : s.price = wonAt l w := e
        omega
/-- the windows, at one of the folk -/
theorem window (W : Worths folk (top : Nat) l ws) {w : Nat} (hw : w < folk) : wonAt l w ≤ lowOf folk top l w ∧ lowOf folk top l w ≤ wAt ws w ∧ wAt ws w ≤ lostAt (top : Nat) l w := by
  have h1 := W.won hw
  have h2 := W.lost hw
  unfold lowOf
  cases ha : aloneB l (boundsOf folk (top : Nat) l) w with
  | true =>
    rw [if_pos rfl, alone_hi W.ok ha W]
    omega
  | false =>
    rw [if_neg Bool.false_ne_true]
    omega
def putB (bs : List (Int × Int)) (w : Nat) (p : Int) : List (Int × Int) := bs.take w ++ [(p, p)] ++ bs.drop (w + 1)
theorem putB_set {bs : List (Int × Int)} {w : Nat} (h : w < bs.length) : putB bs w (hiOf bs w) = narrowB bs w := by
  unfold putB narrowB
  rw [List.set_eq_take_append_cons_drop, if_pos h, List.append_assoc]
  rfl
theorem putB_bd {bs : List (Int × Int)} {w : Nat} {p : Int} (hp : 0 ≤ p ∧ p ≤ 1000) (h : ∀ b ∈ bs, 0 ≤ b.1 ∧ b.1 ≤ 1000 ∧ 0 ≤ b.2 ∧ b.2 ≤ 1000) : ∀ b ∈ putB bs w p, 0 ≤ b.1 ∧ b.1 ≤ 1000 ∧ 0 ≤ b.2 ∧ b.2 ≤ 1000 := fun b hb => by
  unfold putB at hb
  rcases List.mem_append.mp hb with hb | hb
  · rcases List.mem_append.mp hb with hb | hb
    · exact h b (List.mem_of_mem_take hb)
    · rw [List.mem_singleton.mp hb]
      exact ⟨hp.1, hp.2, hp.1, hp.2⟩
  · exact h b (List.mem_of_mem_drop hb)
def dueOf (folk top : Nat) (l : List Sale) (s : Sale) (w : Nat) : Int := if hiOf (boundsOf folk (top : Nat) l) w = s.price then lways l (putB (boundsOf folk (top : Nat) l) w s.price) else 0
theorem due_eq (ok : LogOk folk (top : Nat) l) (hc : canBe folk (top : Nat) l = true) {s : Sale} (hs : s ∈ l) {w : Nat} (hw : w ∈ s.others) : dueOf folk top l s w = waysSet folk (top : Nat) l s w := by
  have hwf := (ok.ok s hs).lt w hw
  have hbl : w < (boundsOf folk (top : Nat) l).length := by rw [bounds_len]; exact hwf
  unfold dueOf waysSet
  rw [hc, Bool.not_true, Bool.or_false]
  by_cases h : hiOf (boundsOf folk (top : Nat) l) w = s.price
  · rw [if_pos h, decide_eq_true h, Bool.not_true, if_neg Bool.false_ne_true, ← h, putB_set hbl]
    exact lw_ways (by unfold narrowB; rw [List.length_set, bounds_len]) fun s hs => (ok.ok s hs).lt
  · rw [if_neg h, decide_eq_false h, Bool.not_false, if_pos rfl]
theorem cntI_pos {α : Type} {P : α → Bool} : ∀ {xs : List α}, 0 ≤ cntI P xs ∧ ((∃ x ∈ xs, P x = true) → 0 < cntI P xs)
  | [] => ⟨Int.le_refl _, fun ⟨x, h, _⟩ => nomatch h⟩
  | x :: xs => by
    have ih := cntI_pos (P := P) (xs := xs)
    unfold cntI at ih ⊢
    rw [List.map_cons, List.sum_cons]
    refine ⟨?_, fun ⟨y, hy, hP⟩ => ?_⟩
    · split <;> omega
    · rcases List.mem_cons.mp hy with rfl | hy
      · rw [if_pos hP]
        omega
      · have := ih.2 ⟨y, hy, hP⟩
        split <;> omega
theorem cntI_eq {α : Type} {P Q : α → Bool} : ∀ {xs : List α}, cntI (fun x => P x && Q x) xs ≤ cntI P xs ∧ (cntI (fun x => P x && Q x) xs = cntI P xs ↔ ∀ x ∈ xs, P x = true → Q x = true)
  | [] => ⟨Int.le_refl _, ⟨fun _ x h => (nomatch h), fun _ => rfl⟩⟩
  | x :: xs => by
    have ih := cntI_eq (P := P) (Q := Q) (xs := xs)
    unfold cntI at ih ⊢
    rw [List.map_cons, List.sum_cons, List.map_cons, List.sum_cons]
    dsimp only at ih ⊢
    have e1 : (if (P x && Q x) = true then (1 : Int) else 0) = if P x = true then (if Q x = true then 1 else 0) else 0 := by cases P x <;> cases Q x <;> rfl
    rw [e1]
    by_cases hP : P x = true
    · rw [if_pos hP, if_pos hP]
      by_cases hQ : Q x = true
      · rw [if_pos hQ]
        refine ⟨by omega, ⟨fun h y hy => ?_, fun h => ?_⟩⟩
        · rcases List.mem_cons.mp hy with rfl | hy
          · exact fun _ => hQ
          · exact ih.2.mp (by omega) y hy
        · have := ih.2.mpr fun y hy => h y (List.mem_cons_of_mem _ hy)
          omega
      · rw [if_neg hQ]
        exact ⟨by omega, ⟨fun h => by omega, fun h => absurd (h x List.mem_cons_self hP) hQ⟩⟩
    · rw [if_neg hP, if_neg hP]
      refine ⟨by omega, ⟨fun h y hy => ?_, fun h => ?_⟩⟩
      · rcases List.mem_cons.mp hy with rfl | hy
        · exact fun z => absurd z hP
        · exact ih.2.mp (by omega) y hy
      · have := ih.2.mpr fun y hy => h y (List.mem_cons_of_mem _ hy)
        omega
theorem how_cnt (ok : LogOk folk (top : Nat) l) : waysF folk l (boundsOf folk (top : Nat) l) = cntI (fitB l) (everyL top folk) := by rw [how_eq ok, cntI_len]
theorem can_pos (ok : LogOk folk (top : Nat) l) : decide (waysF folk l (boundsOf folk (top : Nat) l) = 0) = !canBe folk (top : Nat) l := by
  rw [how_eq ok]
  cases hc : canBe folk (top : Nat) l with
  | false =>
    rw [none_fit ok hc]
    rfl
  | true =>
    have := some_fit ok hc
    cases he : (everyL top folk).filter (fitB l) with
    | nil => exact absurd he this
    | cons a b =>
      rw [List.length_cons]
      exact decide_eq_false (by omega)
theorem in_can (ok : LogOk folk (top : Nat) l) (hc : canBe folk (top : Nat) l = true) {s : Sale} (hs : s ∈ l) {w : Nat} (hw : w ∈ s.others) : decide (w ∈ settersOf s (boundsOf folk (top : Nat) l)) = decide (0 < waysSet folk (top : Nat) l s w) := by
  have hwf := (ok.ok s hs).lt w hw
  rw [set_eq ok hs hw]
  obtain ⟨h1, h2⟩ := hi_in ok hc
  have hm := List.mem_filter.mp h1
  rw [Bool.eq_iff_iff, decide_eq_true_eq, decide_eq_true_eq, setter_mem ok hs]
  constructor
  · rintro ⟨_, e⟩
    exact cntI_pos.2 ⟨_, hm.1, by rw [hm.2, h2 w hwf, e]; simp⟩
  · intro h
    refine ⟨hw, Classical.byContradiction fun hne => ?_⟩
    rw [cntI_none fun ws hmem => ?_] at h
    · omega
    · cases hf : fitB l ws with
      | false => rfl
      | true =>
        have W := (every_worths ok).mp (List.mem_filter.mpr ⟨hmem, hf⟩)
        have g1 := W.lost hwf
        have g2 := lost_le (top := (top : Nat)) hs hw
        rw [Bool.true_and]
        exact decide_eq_false (by omega)
theorem in_sure (ok : LogOk folk (top : Nat) l) (hc : canBe folk (top : Nat) l = true) {s : Sale} (hs : s ∈ l) {w : Nat} (hw : w ∈ s.others) : decide (w ∈ sureOf l (boundsOf folk (top : Nat) l) s) = decide (waysSet folk (top : Nat) l s w = waysF folk l (boundsOf folk (top : Nat) l)) := by
  have hwf := (ok.ok s hs).lt w hw
  rw [set_eq ok hs hw, how_cnt ok]
  obtain ⟨h1, h2⟩ := hi_in ok hc
  have hlw := lost_le (top := (top : Nat)) hs hw
  rw [Bool.eq_iff_iff, decide_eq_true_eq, decide_eq_true_eq, (cntI_eq (P := fitB l) (Q := fun ws => decide (wAt ws w = s.price))).2]
  unfold sureOf
  rw [List.mem_filter, setter_mem ok hs, Bool.or_eq_true, decide_eq_true_eq, (hi_eq hwf).1, (hi_eq hwf).2]
  constructor
  · rintro ⟨⟨_, h4⟩, h3⟩ ws hm hf
    have W := (every_worths ok).mp (List.mem_filter.mpr ⟨hm, hf⟩)
    have g1 := W.won hwf
    have g2 := W.lost hwf
    rw [decide_eq_true_eq]
    rcases h3 with h3 | h3
    · omega
    · rw [alone_hi ok h3 W, h4]
  · intro h
    have use : ∀ ws ∈ (everyL top folk).filter (fitB l), wAt ws w = s.price := fun ws hm => by
      have := List.mem_filter.mp hm
      exact of_decide_eq_true (h ws this.1 this.2)
    have e1 : lostAt (top : Nat) l w = s.price := by rw [← h2 w hwf]; exact use _ h1
    refine ⟨⟨hw, e1⟩, ?_⟩
    cases ha : aloneB l (boundsOf folk (top : Nat) l) w with
    | true => exact .inr rfl
    | false =>
      obtain ⟨ws, g1, g2⟩ := low_in ok hc ha
      have := use ws g1
      rw [g2 hwf] at this
      exact .inl (by omega)
theorem gain_high (ok : LogOk folk (top : Nat) l) : gainOf l (highL folk top l) = mostOf l (boundsOf folk (top : Nat) l) (boughtOf folk l) := by
  rw [gain_sum ok, most_from]
  congr 2
  exact List.map_congr_left fun w hw => by rw [high_at (List.mem_range.mp hw)]
theorem gain_bd (W : Worths folk (top : Nat) l ws) : leastOf l (boundsOf folk (top : Nat) l) (boughtOf folk l) ≤ gainOf l ws ∧ gainOf l ws ≤ mostOf l (boundsOf folk (top : Nat) l) (boughtOf folk l) := by
  have ok := W.ok
  refine ⟨?_, ?_⟩
  · let lot := (List.range folk).filter fun w => decide (wAt ws w = lostAt (top : Nat) l w)
    have hr : allR l (boundsOf folk (top : Nat) l) lot = true := allR_iff.mpr fun s hs => by
      have so := ok.ok s hs
      have hne : s.others.map (wAt ws) ≠ [] := fun z => so.ne (List.map_eq_nil_iff.mp z)
      obtain ⟨v, hv, e2⟩ := List.mem_map.mp (maxL_spec hne).1
      rw [(W.fit s hs).mx] at e2
      have g1 := W.lost (so.lt v hv)
      have g2 := lost_le (top := (top : Nat)) hs hv
      exact ⟨v, (setter_mem ok hs).mpr ⟨hv, by omega⟩, List.mem_filter.mpr ⟨List.mem_range.mpr (so.lt v hv), decide_eq_true (by omega)⟩⟩
    refine Int.le_trans (W.lower hr) (gain_le ok fun w hw => ?_)
    rw [one_at (by rw [bounds_len]; exact hw), (hi_eq hw).1, (hi_eq hw).2]
    split
    · rename_i hx
      have := of_decide_eq_true (List.mem_filter.mp hx).2
      omega
    · exact W.won hw
  · rw [← gain_high ok]
    exact gain_le ok fun w hw => by rw [high_at hw]; exact W.lost hw
end
/-! ### k04: the law's helpers -/
theorem c_leT {g : G} {i j : Int} (h : i ≤ j) : BinD g (compareOp .LtE) (.int i) (.int j) (.d (.bl true)) := by
  have z := c_le (g := g) (i := i) (j := j)
  rw [decide_eq_true h] at z
  exact z
theorem zip_get {α : Type} {l : List α} {p : α × Nat} (h : p ∈ l.zipIdx) : l[p.2]? = some p.1 := by
  obtain ⟨k, hk⟩ := List.mem_iff_getElem?.mp h
  rw [List.getElem?_zipIdx] at hk
  cases hg : l[k]? with
  | none => rw [hg] at hk; cases hk
  | some x =>
    rw [hg] at hk
    simp at hk
    rw [← hk]
    exact hg
theorem enD_sale (l : List Sale) : enD (l.map Sale.d) = l.zipIdx.map fun p => .tup [nD p.2, p.1.d] := by
  unfold enD
  rw [List.zipIdx_map, List.map_map]
  rfl
abbrev s__law_with : Stmt := topS 48
abbrev n__law_with : List Str := ["worths1", "who", "worth"]
theorem sc__law_with : FnScope n__law_with ["worths1", "who", "worth"] (defScope s__law_with) := ⟨rfl, rfl, rfl, by decide +kernel, rfl, by decide +kernel, by decide +kernel⟩
def C__law_with : Con := fun ds B r B' => ∃ (ws : List Int) (w : Nat) (x : Int), ws.length ≤ 8 ∧ ds = [wsD ws, nD w, .int x] ∧ r = .d (wsD (setW ws w x)) ∧ B' = B
theorem has__law_with {T : Top} {f : Addr} {fd : FuncData} (F : Fun T.K "_law_with" "_law_with" s__law_with f fd) (hm : T.mg "_law_with" = some (.ref f)) : HasFn T 1 "_law_with" C__law_with := by
  refine fn_ok F sc__law_with hm (F.binds fun _ _ _ _ _ _ us hl => match us, hl with | [_, _, _], _ => rfl) (fun ds B r B' ⟨_, _, _, _, h, _⟩ => by rw [h]; rfl) fun ds B r B' ⟨ws, w, x, hl, h1, h2, h3⟩ => ?_
  subst h1 h2 h3
  have e : wsD (setW ws w x) = .tup ((cutD (ws.map .int) none (some ((w : Nat) : Int)) ++ [.int x]) ++ cutD (ws.map .int) (some ((w + 1 : Nat) : Int)) none) := by
    unfold wsD setW
    rw [cutD_to, cutD_from, List.map_append, List.map_append, List.map_take, List.map_drop]
    rfl
  rw [e]
  have hml : (ws.map D.int).length = ws.length := by rw [List.length_map]
  refine exs_one (ex_ret (ev_catT (ev_catT (ev_slT (by walk_at "nm") po_no (po_so (by walk_at "nm"))) (ev_tup (evs_cons (by walk_at "nm") evs_nil)) ?_) (ev_slT (by walk_at "nm") (po_so (EvR.to (y := nD (w + 1)) (ev_bin b_add (by walk_at "nm") ev_int) rfl)) po_no) ?_) ⟨rfl, rfl⟩)
  · rw [cutD_to, List.length_take]
    simp
    omega
  · rw [cutD_to, cutD_from, List.length_append, List.length_take, List.length_drop]
    simp
    omega
abbrev s__law_windows_so : Stmt := topS 49
abbrev n__law_windows_so : List Str := ["folk1", "top1", "log1", "ends1", "own", "high", "told1", "who", "low", "most", "end"]
theorem sc__law_windows_so : FnScope n__law_windows_so ["folk1", "top1", "log1", "ends1", "own"] (defScope s__law_windows_so) := ⟨rfl, rfl, rfl, by decide +kernel, rfl, by decide +kernel, by decide +kernel⟩
def C__law_windows_so : Con := fun ds B r B' => ∃ (folk top : Nat) (l : List Sale) (own : List Int), Worths folk (top : Nat) l own ∧ ds = [nD folk, nD top, logD l, .lst ((boundsOf folk (top : Nat) l).map bD), wsD own] ∧ r = .d (.bl true) ∧ B' = B
theorem has__law_windows_so {T : Top} {f : Addr} {fd : FuncData} (bl : Bl T) (H1 : HasFn T 7 "worths" C_worths) (H2 : HasFn T 1 "_law_fit" C__law_fit) (H3 : HasFn T 1 "_law_with" C__law_with) (F : Fun T.K "_law_windows_so" "_law_windows_so" s__law_windows_so f fd) (hm : T.mg "_law_windows_so" = some (.ref f)) : HasFn T 8 "_law_windows_so" C__law_windows_so := by
  refine fn_ok F sc__law_windows_so hm (F.binds fun _ _ _ _ _ _ us hl => match us, hl with | [_, _, _, _, _], _ => rfl) (fun ds B r B' ⟨_, _, _, _, _, h, _⟩ => by rw [h]; rfl) fun ds B r B' ⟨folk, top, l, own, W, h1, h2, h3⟩ => ?_
  subst h1 h2 h3
  have ok := W.ok
  have f8 := ok.f8
  have hc := W.can
  have hol := W.len
  have hbl : (boundsOf folk (top : Nat) l).length = folk := bounds_len
  have hhl : (highL folk top l).length = folk := high_len
  have e : worthsR folk (top : Nat) l = .o (.l ((worthsF l (boundsOf folk (top : Nat) l)).map bD)) := by
    unfold worthsR
    rw [hc, if_pos rfl]
  refine exs_cons (ex_set (i := 5) (x := wsD (highL folk top l)) (B1 := B') (by walk_at "st") (ev_tuple bl (x := .lst ((highL folk top l).map .int)) (ev_lcE (own := [("end", 10)]) bD .int (fun b => b.2) (boundsOf folk (top : Nat) l) (it_seq (by walk_at "nm") rfl) (by walk_at "blk") rfl (by omega) fun b hb => lcp0 (tg_name (i := 10) (by walk_at "st")) (ev_ixN (i := 1) (by walk_at "nm") ev_int rfl rfl)) rfl) ?_ (fun _ _ => rfl))
  refine exs_cons (ex_set (i := 6) (x := .lst ((worthsF l (boundsOf folk (top : Nat) l)).map bD)) (B1 := B') (by walk_at "st") (EvR.fz (ct := .l ((worthsF l (boundsOf folk (top : Nat) l)).map bD)) (by rw [← e]; exact ev_call H1 (by show 7 ≤ 7; omega) rfl (evs_cons (by walk_at "nm") (evs_cons (by walk_at "nm") (evs_cons (by walk_at "nm") evs_nil))) ⟨folk, (top : Nat), l, ok, rfl, rfl, rfl⟩)) ?_ (fun _ _ => rfl))
  have hat := fun w hw => high_at (folk := folk) (top := top) (l := l) (w := w) hw
  have hwin := fun w hw => window W (w := w) hw
  have hlf := fun w hw => low_fit ok hc (w := w) hw
  have hll := fun w hw => low_least ok hc (w := w) hw
  have hhf := high_fit ok hc
  have hsw := fun w x (hw : w < folk) => setW_len (ws := highL folk top l) (w := w) (x := x) (by rw [hhl]; exact hw)
  have hidx : ∀ s ∈ l, IdxOk folk s := fun s hs => (ok.ok s hs).idx f8
  have hlohi := fun w (hw : w < folk) => hi_eq (folk := folk) (top := ((top : Nat) : Int)) (l := l) hw
  have hworth : ∀ p ∈ (worthsF l (boundsOf folk (top : Nat) l)).zipIdx, p.2 < folk ∧ p.1 = (lowOf folk top l p.2, lostAt (top : Nat) l p.2) := fun p hp => by
    have hg := zip_get hp
    rw [worths_eq, List.getElem?_map] at hg
    obtain ⟨w, h1, h2⟩ := Option.map_eq_some_iff.mp hg
    obtain ⟨h3, h4⟩ := List.getElem?_eq_some_iff.mp h1
    rw [List.length_range] at h3
    rw [List.getElem_range] at h4
    subst h4
    exact ⟨h3, h2.symm⟩
  generalize worthsF l (boundsOf folk (top : Nat) l) = wf at *
  generalize highL folk top l = high at *
  generalize boundsOf folk (top : Nat) l = bs at *
  let ρ1 : Rho := ((startR n__law_windows_so [nD folk, nD top, logD l, .lst (bs.map bD), wsD own]).set 5 (.d (wsD high))).set 6 (.d (.lst (wf.map bD)))
  refine exs_cons (ex_for (B1 := B') (ds := wf.zipIdx.map fun p => .tup [nD p.2, bD p.1]) (by rw [← enD_bs]; exact it_enumL rfl bl.enumerate (by walk_at "nm")) (fun i ρ C => ρ = ρ1 ∧ C = B') ⟨rfl, rfl⟩ (fun i d ρ' C hd ⟨g1, g2⟩ => ?_) fun ρ' C h => ?_)
  · obtain ⟨p, hx, rfl, hmm, hi, ht⟩ := map_get hd
    subst g1 g2
    obtain ⟨hw, hp1⟩ := hworth p hmm
    have ha := hat _ hw
    obtain ⟨w1, w2, w3⟩ := hwin _ hw
    have lf := hlf _ hw
    have ll := hll _ hw
    have hs1 := fun x => hsw p.2 x hw
    obtain ⟨lo1, lo2⟩ := hlohi _ hw
    obtain ⟨⟨low, most⟩, w⟩ := p
    have e1 : low = lowOf folk top l w := congrArg Prod.fst hp1
    have e2 : most = lostAt (top : Nat) l w := congrArg Prod.snd hp1
    dsimp only at *
    rw [← e1] at w1 w2 lf ll
    rw [← e2] at w3 ha lo1
    clear e1 e2 hp1 hworth hat hwin hlf hll hsw hlohi
    refine ⟨_, _, tg_tup (tgs_cons (tg_name (i := 7) (by walk_at "st")) (tgs_cons (tg_tup (tgs_cons (tg_name (i := 8) (by walk_at "st")) (tgs_cons (tg_name (i := 9) (by walk_at "st")) tgs_nil))) tgs_nil)), ?_⟩
    refine exs_cons (ex_skip (B1 := C) (Tw.ts (tw_orF (Ts.to (ts_cmp (c_neI (i := most) (j := wAt high w)) (by walk_at "nm") (ev_ixN (by walk_at "nm") (by walk_at "nm") rfl (wAt_get (by rw [hhl]; exact hw)))) (by rw [ha]; simp)) (tw_or1 (ts_not (k := true) (ts_chain3 (c_leT (by rw [lo2]; exact w1)) (c_leT w2) (c_leT w3) (ev_ixN (i := 0) (ev_ixN (i := w) (by walk_at "nm") (by walk_at "nm") rfl (bs_get (by rw [hbl]; exact hw))) ev_int rfl rfl) (by walk_at "nm") (ev_ixN (by walk_at "nm") (by walk_at "nm") rfl (wAt_get (by rw [hol]; exact hw))) (by walk_at "nm")))))) ?_)
    refine exs_cons (ex_skip (B1 := C) (Tw.ts (tw_orF (ts_not (k := true) (ts_val (EvR.to (ev_call H2 (by show 1 ≤ 7; omega) rfl (evs_cons (by walk_at "nm") (evs_cons (ev_call H3 (by show 1 ≤ 7; omega) rfl (evs_cons (by walk_at "nm") (evs_cons (by walk_at "nm") (evs_cons (by walk_at "nm") evs_nil))) ⟨high, w, low, by omega, rfl, rfl, rfl⟩) evs_nil)) ⟨l, setW high w low, by rw [hs1, hhl]; exact hidx, rfl, rfl, rfl⟩) (by rw [lf])))) (tw_or1 (ts_not (k := true) (ts_val (EvR.to (ev_call H2 (by show 1 ≤ 7; omega) rfl (evs_cons (by walk_at "nm") (evs_cons (by walk_at "nm") evs_nil)) ⟨l, high, by rw [hhl]; exact hidx, rfl, rfl, rfl⟩) (by rw [hhf]))))))) ?_)
    refine exs_cons (ex_skip (B1 := C) (Ts.to (Tw.ts (tw_andP (k := decide (1 < low)) (k' := fitB l (setW high w (low - 1))) (ts_cmp c_gt (by walk_at "nm") ev_int) fun _ => tw_and1 (ts_val (ev_call H2 (by show 1 ≤ 7; omega) rfl (evs_cons (by walk_at "nm") (evs_cons (ev_call H3 (by show 1 ≤ 7; omega) rfl (evs_cons (by walk_at "nm") (evs_cons (by walk_at "nm") (evs_cons (ev_bin b_sub (by walk_at "nm") ev_int) evs_nil))) ⟨high, w, low - 1, by omega, rfl, rfl, rfl⟩) evs_nil)) ⟨l, setW high w (low - 1), by rw [hs1, hhl]; exact hidx, rfl, rfl, rfl⟩)))) ?fal) (exs_fgt (is := [7, 8, 9]) (exs_nil ⟨rfl, rfl⟩)))
    by_cases h1 : 1 < low
    · rw [ll h1, Bool.and_false]
    · rw [decide_eq_false h1, Bool.false_and]
  · obtain ⟨g1, g2⟩ := h
    subst g1 g2
    exact exs_one (ex_ret ev_bl ⟨rfl, rfl⟩)
abbrev s__law_sets_so : Stmt := topS 50
abbrev n__law_sets_so : List Str := ["folk1", "top1", "log1", "ends1", "whole", "at", "who", "winner", "price", "others", "can", "surely", "many", "narrow", "due"]
theorem sc__law_sets_so : FnScope n__law_sets_so ["folk1", "top1", "log1", "ends1"] (defScope s__law_sets_so) := ⟨rfl, rfl, rfl, by decide +kernel, rfl, by decide +kernel, by decide +kernel⟩
def C__law_sets_so : Con := fun ds B r B' => ∃ (folk top : Nat) (l : List Sale), LogOk folk (top : Nat) l ∧ canBe folk (top : Nat) l = true ∧ ds = [nD folk, nD top, logD l, .lst ((boundsOf folk (top : Nat) l).map bD)] ∧ r = .d (.bl true) ∧ B' = B
theorem has__law_sets_so {T : Top} {f : Addr} {fd : FuncData} (bl : Bl T) (H1 : HasFn T 7 "how_many" C_how_many) (H2 : HasFn T 7 "setters" C_setters) (H3 : HasFn T 7 "ways_set" C_ways_set) (H4 : HasFn T 1 "_law_ways" C__law_ways) (H5 : HasFn T 1 "_law_same" (C__law_same 0)) (F : Fun T.K "_law_sets_so" "_law_sets_so" s__law_sets_so f fd) (hm : T.mg "_law_sets_so" = some (.ref f)) : HasFn T 8 "_law_sets_so" C__law_sets_so := by
  refine fn_ok F sc__law_sets_so hm (F.binds fun _ _ _ _ _ _ us hl => match us, hl with | [_, _, _, _], _ => rfl) (fun ds B r B' ⟨_, _, _, _, _, h, _⟩ => by rw [h]; rfl) fun ds B r B' ⟨folk, top, l, ok, hc, h1, h2, h3⟩ => ?_
  subst h1 h2 h3
  have f8 := ok.f8
  have n8 := ok.n8
  have hbl : (boundsOf folk (top : Nat) l).length = folk := bounds_len
  have hbd := bounds_bd ok
  have tt := ok.tt
  refine exs_cons (ex_set (i := 4) (x := .int (waysF folk l (boundsOf folk (top : Nat) l))) (B1 := B') (by walk_at "st") (ev_call H1 (by show 7 ≤ 7; omega) rfl (evs_cons (by walk_at "nm") (evs_cons (by walk_at "nm") (evs_cons (by walk_at "nm") evs_nil))) ⟨folk, (top : Nat), l, ok, rfl, rfl, rfl⟩) ?_ (fun _ _ => rfl))
  have mdue := fun s hs w hw => due_eq ok hc (s := s) hs (w := w) hw
  have mcan := fun s hs w hw => in_can ok hc (s := s) hs (w := w) hw
  have msure := fun s hs w hw => in_sure ok hc (s := s) hs (w := w) hw
  have mset : ∀ s, settersD folk (top : Nat) l s = .tup [lotD (settersOf s (boundsOf folk (top : Nat) l)), lotD (sureOf l (boundsOf folk (top : Nat) l) s)] := fun s => by
    unfold settersD
    rw [hc, if_pos rfl]
  unfold dueOf at mdue
  generalize waysF folk l (boundsOf folk (top : Nat) l) = whole at *
  generalize boundsOf folk (top : Nat) l = bs at *
  let ρ1 : Rho := [.d (nD folk), .d (nD top), .d (logD l), .d (.lst (bs.map bD)), .d (.int whole), .u, .u, .u, .u, .u, .u, .u, .u, .u, .u]
  refine exs_cons (ex_for (B1 := B') (ds := l.zipIdx.map fun p => .tup [nD p.2, p.1.d]) (by rw [← enD_sale]; exact it_enumT rfl bl.enumerate (by walk_at "nm")) (fun i ρ Z => ρ = ρ1 ∧ Z = B') ⟨rfl, rfl⟩ (fun i d ρ' Z hd ⟨g1, g2⟩ => ?_) fun ρ' Z h => ?_)
  · obtain ⟨q, hx, rfl, hmm, hi, ht⟩ := map_get hd
    subst g1 g2
    have hq := zip_get hmm
    have hql := List.mem_of_getElem? hq
    have so := ok.ok _ hql
    have hlt := so.lt
    have p1 := so.p1
    have pt := so.pt
    have md := mdue q.1 hql
    have mc := mcan q.1 hql
    have msu := msure q.1 hql
    refine ⟨_, _, tg_tup (tgs_cons (tg_name (i := 5) (by walk_at "st")) (tgs_cons (tg_tup (tgs_cons (tg_name (i := 7) (by walk_at "st")) (tgs_cons (tg_name (i := 8) (by walk_at "st")) (tgs_cons (tg_name (i := 9) (by walk_at "st")) tgs_nil)))) tgs_nil)), ?_⟩
    refine exs_cons (ex_asg (x := .tup [lotD (settersOf q.1 bs), lotD (sureOf l bs q.1)]) (B1 := Z) (EvR.to (ev_call H2 (by show 7 ≤ 7; omega) rfl (evs_cons (by walk_at "nm") (evs_cons (by walk_at "nm") (evs_cons (by walk_at "nm") (evs_cons (by walk_at "nm") evs_nil)))) ⟨folk, (top : Nat), l, q.2, q.1, ok, hq, rfl, rfl, rfl⟩) (mset q.1)) (tg_tup (tgs_cons (tg_name (i := 10) (by walk_at "st")) (tgs_cons (tg_name (i := 11) (by walk_at "st")) tgs_nil))) ?_)
    generalize settersOf q.1 bs = can at *
    generalize sureOf l bs q.1 = sure at *
    let ρ2 : Rho := [.d (nD folk), .d (nD top), .d (logD l), .d (.lst (bs.map bD)), .d (.int whole), .d (nD q.2), .u, .d (nD q.1.win), .d (.int q.1.price), .d (lotD q.1.others), .d (lotD can), .d (lotD sure), .u, .u, .u]
    refine exs_cons (ex_for (B1 := Z) (ds := q.1.others.map nD) (it_seq (x := lotD q.1.others) (by walk_at "nm") rfl) (fun j ρ Y => ρ = ρ2 ∧ Y = Z) ⟨rfl, rfl⟩ (fun j d ρ' Y hd ⟨g1, g2⟩ => ?_) fun ρ' Y h => ?_)
    · obtain ⟨w, hx2, rfl, hm2, hi2, _⟩ := map_get hd
      subst g1 g2
      have hwf := hlt w hm2
      have hwb : w < bs.length := by omega
      have md' := md w hm2
      have mc' := mc w hm2
      have msu' := msu w hm2
      refine ⟨_, _, tg_name (i := 6) (by walk_at "st"), ?_⟩
      refine exs_cons (ex_set (i := 12) (x := .int (waysSet folk (top : Nat) l q.1 w)) (B1 := Y) (by walk_at "st") (ev_call H3 (by show 7 ≤ 7; omega) rfl (evs_cons (by walk_at "nm") (evs_cons (by walk_at "nm") (evs_cons (by walk_at "nm") (evs_cons (by walk_at "nm") (evs_cons (by walk_at "nm") evs_nil))))) ⟨folk, (top : Nat), l, q.2, q.1, w, ok, hq, hm2, rfl, rfl, rfl⟩) ?_ (fun _ _ => rfl))
      generalize waysSet folk (top : Nat) l q.1 w = many at *
      have en : D.lst ((cutD (bs.map bD) none (some ((w : Nat) : Int)) ++ [bD (q.1.price, q.1.price)]) ++ cutD (bs.map bD) (some ((w + 1 : Nat) : Int)) none) = .lst ((putB bs w q.1.price).map bD) := by
        unfold putB
        rw [cutD_to, cutD_from, List.map_append, List.map_append, List.map_take, List.map_drop]
        rfl
      refine exs_cons (ex_set (i := 13) (x := .lst ((putB bs w q.1.price).map bD)) (B1 := Y) (by walk_at "st") (EvR.to (ev_catL (ev_catL (ev_slL (by walk_at "nm") po_no (po_so (by walk_at "nm"))) (ev_lst (evs_cons (ev_tup (evs_cons (by walk_at "nm") (evs_cons (by walk_at "nm") evs_nil))) evs_nil)) ?l1) (ev_slL (by walk_at "nm") (po_so (EvR.to (y := nD (w + 1)) (ev_bin b_add (by walk_at "nm") ev_int) rfl)) po_no) ?l2) en) ?_ (fun _ _ => rfl))
      case l1 =>
        rw [cutD_to, List.length_take, List.length_map]
        simp
        omega
      case l2 =>
        rw [cutD_to, cutD_from, List.length_append, List.length_take, List.length_drop, List.length_map]
        simp
        omega
      have hpl : (putB bs w q.1.price).length ≤ 8 := by
        unfold putB
        rw [List.length_append, List.length_append, List.length_take, List.length_drop]
        simp
        omega
      refine exs_cons (ex_set (i := 14) (x := .int many) (B1 := Y) (by walk_at "st") (EvR.to (x := .int (if hiOf bs w = q.1.price then lways l (putB bs w q.1.price) else 0)) (ev_if (k := decide (hiOf bs w = q.1.price)) (B1 := Y) (ts_cmp c_eqI (ev_ixN (i := 1) (ev_ixN (i := w) (by walk_at "nm") (by walk_at "nm") rfl (bs_get hwb)) ev_int rfl rfl) (by walk_at "nm")) (fun hk => ?t) fun hk => ?e) (by rw [md'])) ?_ (fun _ _ => rfl))
      case t =>
        rw [if_pos (of_decide_eq_true hk)]
        exact ev_call H4 (by show 1 ≤ 7; omega) rfl (evs_cons (by walk_at "nm") (evs_cons (by walk_at "nm") evs_nil)) ⟨l, putB bs w q.1.price, n8, hpl, putB_bd ⟨by omega, by omega⟩ hbd, rfl, rfl, rfl⟩
      case e =>
        rw [if_neg (of_decide_eq_false hk)]
        exact ev_int
      have es : D.same (.int many) (.int many) = true := by rw [same_int]; exact decide_eq_true rfl
      have e2 : (!decide (decide (w ∈ can) = decide (0 < many))) = false := by rw [mc', decide_eq_true rfl]; rfl
      have e3 : (!decide (decide (w ∈ sure) = decide (many = whole))) = false := by rw [msu', decide_eq_true rfl]; rfl
      refine exs_cons (ex_skip (B1 := Y) (Tw.ts (tw_orF (ts_not (k := true) (ts_val ?a)) (tw_orF (Ts.to ?b e2) (tw_or1 (Ts.to ?c e3))))) ?nx)
      case a =>
        rw [← es]
        exact ev_call H5 (by show 1 ≤ 7; omega) rfl (evs_cons (by walk_at "nm") (evs_cons (by walk_at "nm") evs_nil)) ⟨.int many, .int many, D.Scl.int _, D.Scl.plain (D.Scl.int many), rfl, rfl, rfl⟩
      case b =>
        refine ts_cmp (B1 := Y) c_neB ?b1 ?b2
        case b1 => exact ev_cmp (c_inN (i := w) (y := lotD can) (ns := can) rfl) (by walk_at "nm") (by walk_at "nm")
        case b2 => exact ev_cmp (c_gt (i := many) (j := 0)) (by walk_at "nm") ev_int
      case c =>
        refine ts_cmp (B1 := Y) c_neB ?c1 ?c2
        case c1 => exact ev_cmp (c_inN (i := w) (y := lotD sure) (ns := sure) rfl) (by walk_at "nm") (by walk_at "nm")
        case c2 => exact ev_cmp (c_eqI (i := many) (j := whole)) (by walk_at "nm") (by walk_at "nm")
      case nx => exact exs_fgt (is := [6, 12, 13, 14]) (exs_nil ⟨rfl, rfl⟩)
    · obtain ⟨g1, g2⟩ := h
      subst g1 g2
      exact exs_fgt (is := [5, 7, 8, 9, 10, 11]) (exs_nil ⟨rfl, rfl⟩)
  · obtain ⟨g1, g2⟩ := h
    subst g1 g2
    exact exs_one (ex_ret ev_bl ⟨rfl, rfl⟩)
/-! ### the law k04 -/
abbrev s_law : Stmt := topS 51
abbrev n_law : List Str := ["script", "bag", "ends1", "sums", "bent", "folk1", "top1", "log1", "own", "few", "many", "one", "sale", "end"]
theorem sc_law : FnScope n_law ["script"] (defScope s_law) := ⟨rfl, rfl, rfl, by decide +kernel, rfl, by decide +kernel, by decide +kernel⟩
theorem law_body {T : Top} (bl : Bl T) (Ht : HasFn T 1 "_law_take" C__law_take) (Hm : HasFn T 3 "_law_market" C__law_market) (He : HasFn T 1 "_law_ends" C__law_ends) (Hs : HasFn T 1 "_law_same" (C__law_same 0)) (Hhow : HasFn T 7 "how_many" C_how_many) (Hlw : HasFn T 1 "_law_ways" C__law_ways) (Hwin : HasFn T 8 "_law_windows_so" C__law_windows_so) (Hsets : HasFn T 8 "_law_sets_so" C__law_sets_so) (Hg : HasFn T 7 "gains" C_gains) (HgN : HasFn T 7 "gains" C_gainsN) (Hbent : HasFn T 2 "_law_bent" C__law_bent) (Hwor : HasFn T 7 "worths" C_worths)
    {body rest : List Stmt} {tg it : Expr} {p : Pos} (hb : defBody s_law = .For tg it body [] p :: rest) (b : Bag) (h0 : Bag0 b) : Exs (fnG T n_law s_law 8) body ((rhoU n_law).set 1 (.d .bag)) b (bagE n_law) := by
  have hbody : body = (match defBody s_law with | .For _ _ body _ _ :: _ => body | _ => []) := by rw [hb]
  subst hbody
  have hB : BagN 10000 b := ⟨h0.1, h0.2.1, h0.2.2.1, h0.2.2.2.1, h0.2.2.2.2⟩
  have hB1 := takeB_ok (many := 2) hB
  have hk := takeN_lt (B := b) (many := 2) (by omega)
  obtain ⟨mt, hmt, m1, m2⟩ : ∃ mt : Nat, ([D.int 1000, D.int 5])[takeN b 2]? = some (nD mt) ∧ 1 ≤ mt ∧ mt ≤ 1000 := by
    have : takeN b 2 = 0 ∨ takeN b 2 = 1 := by omega
    rcases this with h | h
    · exact ⟨1000, by rw [h]; rfl, by omega, by omega⟩
    · exact ⟨5, by rw [h]; rfl, by omega, by omega⟩
  have mok := mk_ok (ms := 8) (mf := 8) (mt := mt) (by omega) m1 hB1
  obtain ⟨lok, fit, l8, hB5⟩ := mk_log (mf := 8) (mt := mt) (ms := 8) (by omega) (by omega) m1 m2 (by omega) hB1
  have W : Worths (mkF 8 (takeB b 2)) (mkT 8 mt (takeB b 2) : Nat) (mkL 8 mt 8 (takeB b 2)) (mkW 8 mt (takeB b 2)) := ⟨lok, mok.wl, mok.wb, fit⟩
  refine exs_cons (ex_asg (x := .tup [nD (mkF 8 (takeB b 2)), nD (mkT 8 mt (takeB b 2)), logD (mkL 8 mt 8 (takeB b 2)), wsD (mkW 8 mt (takeB b 2))]) (B1 := mkB 8 mt 8 (takeB b 2)) (ev_call Hm (by show 3 ≤ 8; omega) rfl (evs_cons (by walk_at "nm") (evs_cons ev_int (evs_cons (ev_ixN (i := takeN b 2) (ev_lst (evs_cons ev_int (evs_cons ev_int evs_nil))) (ev_call Ht (by show 1 ≤ 8; omega) rfl (evs_cons (by walk_at "nm") (evs_cons ev_int evs_nil)) ⟨2, by omega, by omega, hB.mono (by omega), rfl, rfl, rfl⟩) rfl hmt) (evs_cons ev_int evs_nil)))) ⟨8, mt, 8, by omega, by omega, m1, m2, by omega, hB1.mono (by omega), rfl, rfl, rfl⟩)
    (tg_tup (tgs_cons (tg_name (i := 5) (by walk_at "st")) (tgs_cons (tg_name (i := 6) (by walk_at "st")) (tgs_cons (tg_name (i := 7) (by walk_at "st")) (tgs_cons (tg_name (i := 8) (by walk_at "st")) tgs_nil))))) ?_)
  clear mok fit
  generalize mkF 8 (takeB b 2) = folk at *
  generalize mkT 8 mt (takeB b 2) = top at *
  generalize mkL 8 mt 8 (takeB b 2) = l at *
  generalize mkW 8 mt (takeB b 2) = ws at *
  generalize mkB 8 mt 8 (takeB b 2) = C at *
  have f8 := lok.f8
  have n8 := lok.n8
  have cb := W.can
  have wl := W.len
  have hbl : (boundsOf folk (top : Nat) l).length = folk := bounds_len
  have hlt : ∀ s ∈ l, ∀ w ∈ s.others, w < folk := fun s hs => (lok.ok s hs).lt
  have e_ends := lok.ends
  have e_ways := lw_ways hbl hlt
  have e_bd := bounds_bd lok
  have gb := gain_bd W
  have gh := gain_high lok
  have hhl : (highL folk top l).length = folk := high_len
  have hcs : ∀ p ∈ pricesOf l, costsOf l (boundsOf folk (top : Nat) l) (boughtOf folk l) p ≠ [] := fun p _ => W.costs _ p
  refine exs_cons (ex_set (i := 2) (x := .lst ((boundsOf folk (top : Nat) l).map bD)) (B1 := C) (by walk_at "st") (EvR.to (ev_call He (by show 1 ≤ 8; omega) rfl (evs_cons (by walk_at "nm") (evs_cons (by walk_at "nm") (evs_cons (by walk_at "nm") evs_nil))) ⟨folk, (top : Nat), l, by omega, by omega, rfl, rfl, rfl⟩) (by rw [e_ends])) ?_ (fun _ _ => rfl))
  refine exs_cons (ex_skip (B1 := C) (ts_not (k := true) (ts_val (EvR.to (ev_call Hs (by show 1 ≤ 8; omega) rfl (evs_cons (ev_call Hhow (by show 7 ≤ 8; omega) rfl (evs_cons (by walk_at "nm") (evs_cons (by walk_at "nm") (evs_cons (by walk_at "nm") evs_nil))) ⟨folk, (top : Nat), l, lok, rfl, rfl, rfl⟩) (evs_cons (ev_call Hlw (by show 1 ≤ 8; omega) rfl (evs_cons (by walk_at "nm") (evs_cons (by walk_at "nm") evs_nil)) ⟨l, boundsOf folk (top : Nat) l, n8, by omega, e_bd, rfl, rfl, rfl⟩) evs_nil)) ⟨_, _, D.Scl.int _, D.Scl.plain (D.Scl.int _), rfl, rfl, rfl⟩) (by rw [same_int, e_ways]; simp)))) ?_)
  refine exs_cons (ex_skip (B1 := C) (Tw.ts (tw_orF (ts_not (k := true) (ts_val (ev_call Hwin (by show 8 ≤ 8; omega) rfl (evs_cons (by walk_at "nm") (evs_cons (by walk_at "nm") (evs_cons (by walk_at "nm") (evs_cons (by walk_at "nm") (evs_cons (by walk_at "nm") evs_nil))))) ⟨folk, top, l, ws, W, rfl, rfl, rfl⟩))) (tw_or1 (ts_not (k := true) (ts_val (ev_call Hsets (by show 8 ≤ 8; omega) rfl (evs_cons (by walk_at "nm") (evs_cons (by walk_at "nm") (evs_cons (by walk_at "nm") (evs_cons (by walk_at "nm") evs_nil)))) ⟨folk, top, l, lok, cb, rfl, rfl, rfl⟩)))))) ?_)
  refine exs_cons (ex_setE (i := 3) (B1 := C) (own := [("one", 11), ("sale", 12)]) wsD .int (gainOf l) [ws, highL folk top l] (by walk_at "st") rfl (it_seq (ev_tup (evs_cons (by walk_at "nm") (evs_cons (ev_tuple bl (x := .lst ((highL folk top l).map .int)) (ev_lcE (own := [("end", 13)]) bD .int (fun b => b.2) (boundsOf folk (top : Nat) l) (it_seq (by walk_at "nm") rfl) (by walk_at "blk") rfl (by omega) fun b hb => lcp0 (tg_name (i := 13) (by walk_at "st")) (ev_ixN (i := 1) (by walk_at "nm") ev_int rfl rfl)) rfl) evs_nil))) rfl) (by walk_at "blk") rfl (by simp) (fun v hv => lcp0 (tg_name (i := 11) (by walk_at "st")) (ev_sum bl (ns := l.map fun s => wAt v s.win - s.price) (ev_lcE (own := [("sale", 12)]) Sale.d .int (fun s => wAt v s.win - s.price) l (it_seq (by walk_at "nm") rfl) (by walk_at "blk") rfl (by omega) fun s hs => lcp0 (tg_name (i := 12) (by walk_at "st")) (ev_bin b_sub (ev_ixN (by walk_at "nm") (ev_ixN (i := 0) (by walk_at "nm") ev_int rfl rfl) rfl (wAt_get ?lt)) (ev_ixN (i := 1) (by walk_at "nm") ev_int rfl rfl))))) ?_)
  case lt =>
    have hv' : v.length = folk := by
      simp only [List.mem_cons, List.not_mem_nil, or_false] at hv
      rcases hv with rfl | rfl
      · exact wl
      · exact hhl
    rw [hv']
    exact (lok.ok s hs).win
  refine exs_cons (ex_asg (x := .tup [.int (leastOf l (boundsOf folk (top : Nat) l) (boughtOf folk l)), .int (mostOf l (boundsOf folk (top : Nat) l) (boughtOf folk l))]) (B1 := C) (ev_call Hg (by show 7 ≤ 8; omega) rfl (evs_cons (by walk_at "nm") (evs_cons (by walk_at "nm") (evs_cons (by walk_at "nm") evs_nil))) ⟨folk, (top : Nat), l, lok, cb, hcs, rfl, rfl, rfl⟩) (tg_tup (tgs_cons (tg_name (i := 9) (by walk_at "st")) (tgs_cons (tg_name (i := 10) (by walk_at "st")) tgs_nil))) ?_)
  refine exs_cons (ex_skip (B1 := C) (Tw.ts (tw_orF (ts_not (k := true) (ts_chain (k := true) (k' := true) (c_leT gb.1) (c_leT gb.2) (by walk_at "nm") (ev_ixN (i := 0) (x := .lst [.int (gainOf l ws), .int (gainOf l (highL folk top l))]) (by walk_at "nm") ev_int rfl rfl) (fun _ => (by walk_at "nm")) fun h => nomatch h)) (tw_or1 (Ts.to (ts_cmp (c_neI (i := mostOf l (boundsOf folk (top : Nat) l) (boughtOf folk l)) (j := gainOf l (highL folk top l))) (by walk_at "nm") (ev_ixN (i := 1) (x := .lst [.int (gainOf l ws), .int (gainOf l (highL folk top l))]) (by walk_at "nm") ev_int rfl rfl)) (by rw [gh]; simp))))) ?_)
  have C20 : BagN 20000 C := hB5.mono (by omega)
  refine exs_cons (ex_set (i := 4) (x := logD (bentL top l C)) (B1 := bentB top l C) (by walk_at "st") (ev_call Hbent (by show 2 ≤ 8; omega) rfl (evs_cons (by walk_at "nm") (evs_cons (by walk_at "nm") (evs_cons (by walk_at "nm") (evs_cons (by walk_at "nm") evs_nil)))) ⟨folk, top, l, lok, C20.mono (by omega), rfl, rfl, rfl⟩) ?_ (fun _ _ => rfl))
  have bok := bentL_ok (B := C) lok
  generalize bentL top l C = l2 at *
  generalize bentB top l C = C2 at *
  have hlt2 : ∀ s ∈ l2, ∀ w ∈ s.others, w < folk := fun s hs => (bok.ok s hs).lt
  have hbl2 : (boundsOf folk (top : Nat) l2).length = folk := bounds_len
  have e_ends2 := bok.ends
  have e_ways2 := lw_ways hbl2 hlt2
  have e_bd2 := bounds_bd bok
  have n82 := bok.n8
  have cp := can_pos bok
  refine exs_cons (ex_skip (B1 := C2) (Ts.to (ts_cmp c_neI (ev_call Hhow (by show 7 ≤ 8; omega) rfl (evs_cons (by walk_at "nm") (evs_cons (by walk_at "nm") (evs_cons (by walk_at "nm") evs_nil))) ⟨folk, (top : Nat), l2, bok, rfl, rfl, rfl⟩) (ev_call Hlw (by show 1 ≤ 8; omega) rfl (evs_cons (by walk_at "nm") (evs_cons (EvR.to (y := .lst ((boundsOf folk (top : Nat) l2).map bD)) (ev_call He (by show 1 ≤ 8; omega) rfl (evs_cons (by walk_at "nm") (evs_cons (by walk_at "nm") (evs_cons (by walk_at "nm") evs_nil))) ⟨folk, (top : Nat), l2, by omega, by omega, rfl, rfl, rfl⟩) (by rw [e_ends2])) evs_nil)) ⟨l2, boundsOf folk (top : Nat) l2, n82, by omega, e_bd2, rfl, rfl, rfl⟩)) (by rw [e_ways2]; simp)) ?_)
  cases hc : canBe folk (top : Nat) l2 with
  | true =>
    have e : worthsR folk (top : Nat) l2 = .o (.l ((worthsF l2 (boundsOf folk (top : Nat) l2)).map bD)) := by
      unfold worthsR
      rw [hc, if_pos rfl]
    rw [hc] at cp
    have W2 := (every_worths bok).mp (hi_in bok hc).1
    have hcs2 : ∀ p ∈ pricesOf l2, costsOf l2 (boundsOf folk (top : Nat) l2) (boughtOf folk l2) p ≠ [] := fun p _ => W2.costs _ p
    refine exs_cons (ex_skip (B1 := C2) (Ts.to (ts_cmp (c_neB (s := false) (t := decide (waysF folk l2 (boundsOf folk (top : Nat) l2) = 0))) (ev_cmp (c_isN (x := .lst ((worthsF l2 (boundsOf folk (top : Nat) l2)).map bD))) (EvR.fz (ct := .l ((worthsF l2 (boundsOf folk (top : Nat) l2)).map bD)) (by rw [← e]; exact ev_call Hwor (by show 7 ≤ 8; omega) rfl (evs_cons (by walk_at "nm") (evs_cons (by walk_at "nm") (evs_cons (by walk_at "nm") evs_nil))) ⟨folk, (top : Nat), l2, bok, rfl, rfl, rfl⟩)) ev_non) (ev_cmp c_eqI (ev_call Hhow (by show 7 ≤ 8; omega) rfl (evs_cons (by walk_at "nm") (evs_cons (by walk_at "nm") (evs_cons (by walk_at "nm") evs_nil))) ⟨folk, (top : Nat), l2, bok, rfl, rfl, rfl⟩) ev_int)) (by rw [cp]; rfl)) ?_)
    exact exs_one (ex_skip (B1 := C2) (Ts.to (ts_cmp (c_neB (s := false) (t := decide (waysF folk l2 (boundsOf folk (top : Nat) l2) = 0))) (ev_cmp (c_isN (x := .tup [.int (leastOf l2 (boundsOf folk (top : Nat) l2) (boughtOf folk l2)), .int (mostOf l2 (boundsOf folk (top : Nat) l2) (boughtOf folk l2))])) (ev_call Hg (by show 7 ≤ 8; omega) rfl (evs_cons (by walk_at "nm") (evs_cons (by walk_at "nm") (evs_cons (by walk_at "nm") evs_nil))) ⟨folk, (top : Nat), l2, bok, hc, hcs2, rfl, rfl, rfl⟩) ev_non) (ev_cmp c_eqI (ev_call Hhow (by show 7 ≤ 8; omega) rfl (evs_cons (by walk_at "nm") (evs_cons (by walk_at "nm") (evs_cons (by walk_at "nm") evs_nil))) ⟨folk, (top : Nat), l2, bok, rfl, rfl, rfl⟩) ev_int)) (by rw [cp]; rfl)) rfl)
  | false =>
    have e : worthsR folk (top : Nat) l2 = .d .non := by
      unfold worthsR
      rw [hc, if_neg Bool.false_ne_true]
    rw [hc] at cp
    refine exs_cons (ex_skip (B1 := C2) (Ts.to (ts_cmp (c_neB (s := true) (t := decide (waysF folk l2 (boundsOf folk (top : Nat) l2) = 0))) (ev_cmp (c_isN (x := .non)) (by show EvR _ _ _ _ (Res.d D.non) _; rw [← e]; exact ev_call Hwor (by show 7 ≤ 8; omega) rfl (evs_cons (by walk_at "nm") (evs_cons (by walk_at "nm") (evs_cons (by walk_at "nm") evs_nil))) ⟨folk, (top : Nat), l2, bok, rfl, rfl, rfl⟩) ev_non) (ev_cmp c_eqI (ev_call Hhow (by show 7 ≤ 8; omega) rfl (evs_cons (by walk_at "nm") (evs_cons (by walk_at "nm") (evs_cons (by walk_at "nm") evs_nil))) ⟨folk, (top : Nat), l2, bok, rfl, rfl, rfl⟩) ev_int)) (by rw [cp]; rfl)) ?_)
    exact exs_one (ex_skip (B1 := C2) (Ts.to (ts_cmp (c_neB (s := true) (t := decide (waysF folk l2 (boundsOf folk (top : Nat) l2) = 0))) (ev_cmp (c_isN (x := .non)) (ev_call HgN (by show 7 ≤ 8; omega) rfl (evs_cons (by walk_at "nm") (evs_cons (by walk_at "nm") (evs_cons (by walk_at "nm") evs_nil))) ⟨folk, (top : Nat), l2, bok, hc, rfl, rfl, rfl⟩) ev_non) (ev_cmp c_eqI (ev_call Hhow (by show 7 ≤ 8; omega) rfl (evs_cons (by walk_at "nm") (evs_cons (by walk_at "nm") (evs_cons (by walk_at "nm") evs_nil))) ⟨folk, (top : Nat), l2, bok, rfl, rfl, rfl⟩) ev_int)) (by rw [cp]; rfl)) rfl)
abbrev s__law_bags : Stmt := topS 40
abbrev n__law_bags : List Str := ["script", "most", "k", "cell"]
theorem sc__law_bags : FnScope n__law_bags ["script", "most"] (defScope s__law_bags) := ⟨rfl, rfl, rfl, by decide +kernel, rfl, by decide +kernel, by decide +kernel⟩
theorem law_fn {T : Top} (bl : Bl T) (c1 : ∃ t, T.mg "MOST_FOLK" = some (.int 8 t)) (c2 : ∃ t, T.mg "MOST_TOP" = some (.int 1000 t)) (c3 : ∃ t, T.mg "MOST_SALES" = some (.int 8 t))
    {f_is_whole : Addr} {d_is_whole : FuncData} (F_is_whole : Fun T.K "is_whole" "is_whole" s_is_whole f_is_whole d_is_whole) (g_is_whole : T.mg "is_whole" = some (.ref f_is_whole))
    {f_is_within : Addr} {d_is_within : FuncData} (F_is_within : Fun T.K "is_within" "is_within" s_is_within f_is_within d_is_within) (g_is_within : T.mg "is_within" = some (.ref f_is_within))
    {f_are_some : Addr} {d_are_some : FuncData} (F_are_some : Fun T.K "are_some" "are_some" s_are_some f_are_some d_are_some) (g_are_some : T.mg "are_some" = some (.ref f_are_some))
    {f_is_sale : Addr} {d_is_sale : FuncData} (F_is_sale : Fun T.K "is_sale" "is_sale" s_is_sale f_is_sale d_is_sale) (g_is_sale : T.mg "is_sale" = some (.ref f_is_sale))
    {f_look_at_market : Addr} {d_look_at_market : FuncData} (F_look_at_market : Fun T.K "look_at_market" "look_at_market" s_look_at_market f_look_at_market d_look_at_market) (g_look_at_market : T.mg "look_at_market" = some (.ref f_look_at_market))
    {f_is_log_of : Addr} {d_is_log_of : FuncData} (F_is_log_of : Fun T.K "is_log_of" "is_log_of" s_is_log_of f_is_log_of d_is_log_of) (g_is_log_of : T.mg "is_log_of" = some (.ref f_is_log_of))
    {f_look_at : Addr} {d_look_at : FuncData} (F_look_at : Fun T.K "look_at" "look_at" s_look_at f_look_at d_look_at) (g_look_at : T.mg "look_at" = some (.ref f_look_at))
    {f_look_at_sale : Addr} {d_look_at_sale : FuncData} (F_look_at_sale : Fun T.K "look_at_sale" "look_at_sale" s_look_at_sale f_look_at_sale d_look_at_sale) (g_look_at_sale : T.mg "look_at_sale" = some (.ref f_look_at_sale))
    {f_won_at : Addr} {d_won_at : FuncData} (F_won_at : Fun T.K "won_at" "won_at" s_won_at f_won_at d_won_at) (g_won_at : T.mg "won_at" = some (.ref f_won_at))
    {f_lost_at : Addr} {d_lost_at : FuncData} (F_lost_at : Fun T.K "lost_at" "lost_at" s_lost_at f_lost_at d_lost_at) (g_lost_at : T.mg "lost_at" = some (.ref f_lost_at))
    {f_bounds : Addr} {d_bounds : FuncData} (F_bounds : Fun T.K "bounds" "bounds" s_bounds f_bounds d_bounds) (g_bounds : T.mg "bounds" = some (.ref f_bounds))
    {f_setters_of : Addr} {d_setters_of : FuncData} (F_setters_of : Fun T.K "setters_of" "setters_of" s_setters_of f_setters_of d_setters_of) (g_setters_of : T.mg "setters_of" = some (.ref f_setters_of))
    {f_can_be_so : Addr} {d_can_be_so : FuncData} (F_can_be_so : Fun T.K "can_be_so" "can_be_so" s_can_be_so f_can_be_so d_can_be_so) (g_can_be_so : T.mg "can_be_so" = some (.ref f_can_be_so))
    {f_lots : Addr} {d_lots : FuncData} (F_lots : Fun T.K "lots" "lots" s_lots f_lots d_lots) (g_lots : T.mg "lots" = some (.ref f_lots))
    {f_reaches : Addr} {d_reaches : FuncData} (F_reaches : Fun T.K "reaches" "reaches" s_reaches f_reaches d_reaches) (g_reaches : T.mg "reaches" = some (.ref f_reaches))
    {f_group_of : Addr} {d_group_of : FuncData} (F_group_of : Fun T.K "group_of" "group_of" s_group_of f_group_of d_group_of) (g_group_of : T.mg "group_of" = some (.ref f_group_of))
    {f_prices : Addr} {d_prices : FuncData} (F_prices : Fun T.K "prices" "prices" s_prices f_prices d_prices) (g_prices : T.mg "prices" = some (.ref f_prices))
    {f_ways : Addr} {d_ways : FuncData} (F_ways : Fun T.K "ways" "ways" s_ways f_ways d_ways) (g_ways : T.mg "ways" = some (.ref f_ways))
    {f_how_many : Addr} {d_how_many : FuncData} (F_how_many : Fun T.K "how_many" "how_many" s_how_many f_how_many d_how_many) (g_how_many : T.mg "how_many" = some (.ref f_how_many))
    {f_alone_at : Addr} {d_alone_at : FuncData} (F_alone_at : Fun T.K "alone_at" "alone_at" s_alone_at f_alone_at d_alone_at) (g_alone_at : T.mg "alone_at" = some (.ref f_alone_at))
    {f_worths : Addr} {d_worths : FuncData} (F_worths : Fun T.K "worths" "worths" s_worths f_worths d_worths) (g_worths : T.mg "worths" = some (.ref f_worths))
    {f_setters : Addr} {d_setters : FuncData} (F_setters : Fun T.K "setters" "setters" s_setters f_setters d_setters) (g_setters : T.mg "setters" = some (.ref f_setters))
    {f_ways_set : Addr} {d_ways_set : FuncData} (F_ways_set : Fun T.K "ways_set" "ways_set" s_ways_set f_ways_set d_ways_set) (g_ways_set : T.mg "ways_set" = some (.ref f_ways_set))
    {f_gains : Addr} {d_gains : FuncData} (F_gains : Fun T.K "gains" "gains" s_gains f_gains d_gains) (g_gains : T.mg "gains" = some (.ref f_gains))
    {f__law_well : Addr} {d__law_well : FuncData} (F__law_well : Fun T.K "_law_well" "_law_well" s__law_well f__law_well d__law_well) (g__law_well : T.mg "_law_well" = some (.ref f__law_well))
    {f__law_take : Addr} {d__law_take : FuncData} (F__law_take : Fun T.K "_law_take" "_law_take" s__law_take f__law_take d__law_take) (g__law_take : T.mg "_law_take" = some (.ref f__law_take))
    {f__law_bags : Addr} {d__law_bags : FuncData} (F__law_bags : Fun T.K "_law_bags" "_law_bags" s__law_bags f__law_bags d__law_bags) (g__law_bags : T.mg "_law_bags" = some (.ref f__law_bags))
    {f__law_same : Addr} {d__law_same : FuncData} (F__law_same : Fun T.K "_law_same" "_law_same" s__law_same f__law_same d__law_same) (g__law_same : T.mg "_law_same" = some (.ref f__law_same))
    {f__law_some : Addr} {d__law_some : FuncData} (F__law_some : Fun T.K "_law_some" "_law_some" s__law_some f__law_some d__law_some) (g__law_some : T.mg "_law_some" = some (.ref f__law_some))
    {f__law_market : Addr} {d__law_market : FuncData} (F__law_market : Fun T.K "_law_market" "_law_market" s__law_market f__law_market d__law_market) (g__law_market : T.mg "_law_market" = some (.ref f__law_market))
    {f__law_bent : Addr} {d__law_bent : FuncData} (F__law_bent : Fun T.K "_law_bent" "_law_bent" s__law_bent f__law_bent d__law_bent) (g__law_bent : T.mg "_law_bent" = some (.ref f__law_bent))
    {f__law_fit : Addr} {d__law_fit : FuncData} (F__law_fit : Fun T.K "_law_fit" "_law_fit" s__law_fit f__law_fit d__law_fit) (g__law_fit : T.mg "_law_fit" = some (.ref f__law_fit))
    {f__law_ends : Addr} {d__law_ends : FuncData} (F__law_ends : Fun T.K "_law_ends" "_law_ends" s__law_ends f__law_ends d__law_ends) (g__law_ends : T.mg "_law_ends" = some (.ref f__law_ends))
    {f__law_ways : Addr} {d__law_ways : FuncData} (F__law_ways : Fun T.K "_law_ways" "_law_ways" s__law_ways f__law_ways d__law_ways) (g__law_ways : T.mg "_law_ways" = some (.ref f__law_ways))
    {f__law_with : Addr} {d__law_with : FuncData} (F__law_with : Fun T.K "_law_with" "_law_with" s__law_with f__law_with d__law_with) (g__law_with : T.mg "_law_with" = some (.ref f__law_with))
    {f__law_windows_so : Addr} {d__law_windows_so : FuncData} (F__law_windows_so : Fun T.K "_law_windows_so" "_law_windows_so" s__law_windows_so f__law_windows_so d__law_windows_so) (g__law_windows_so : T.mg "_law_windows_so" = some (.ref f__law_windows_so))
    {f__law_sets_so : Addr} {d__law_sets_so : FuncData} (F__law_sets_so : Fun T.K "_law_sets_so" "_law_sets_so" s__law_sets_so f__law_sets_so d__law_sets_so) (g__law_sets_so : T.mg "_law_sets_so" = some (.ref f__law_sets_so))
    {f_law : Addr} {d_law : FuncData} (F_law : Fun T.K "law" "law" s_law f_law d_law) (g_law : T.mg "law" = some (.ref f_law))
    : FnOk T.P T.w T.K T.mg T.base CX0 9 f_law d_law ["script"] (spLaw T.K) := by
  have ms : Mst T := ⟨c1, c2, c3⟩
  have H_is_whole := has_is_whole bl F_is_whole g_is_whole
  have H_is_within := has_is_within H_is_whole F_is_within g_is_within
  have H_are_some := has_are_some bl H_is_within F_are_some g_are_some
  have H_is_sale := has_is_sale bl H_is_within H_are_some F_is_sale g_is_sale
  have H_look_at_market := has_look_at_market ms H_is_within F_look_at_market g_look_at_market
  have H_is_log_of := has_is_log_of bl ms H_is_sale F_is_log_of g_is_log_of
  have H_look_at := has_look_at H_look_at_market H_is_log_of F_look_at g_look_at
  have H_look_at_sale := has_look_at_sale bl H_is_within F_look_at_sale g_look_at_sale
  have H_won_at := has_won_at bl F_won_at g_won_at
  have H_lost_at := has_lost_at bl F_lost_at g_lost_at
  have H_bounds := has_bounds bl H_won_at H_lost_at F_bounds g_bounds
  have H_setters_of := has_setters_of  F_setters_of g_setters_of
  have H_can_be_so := has_can_be_so bl H_bounds H_setters_of F_can_be_so g_can_be_so
  have H_lots := has_lots  F_lots g_lots
  have H_reaches := has_reaches bl H_setters_of F_reaches g_reaches
  have H_group_of := has_group_of bl H_setters_of F_group_of g_group_of
  have H_prices := has_prices bl F_prices g_prices
  have H_ways := has_ways bl H_setters_of H_prices H_group_of H_lots H_reaches F_ways g_ways
  have H_how_many := has_how_many H_look_at H_ways H_bounds F_how_many g_how_many
  have H_alone_at := has_alone_at bl H_setters_of F_alone_at g_alone_at
  have H_worths := has_worths bl H_look_at H_can_be_so H_bounds H_alone_at F_worths g_worths
  have H_setters := has_setters bl H_look_at H_can_be_so H_bounds H_alone_at H_look_at_sale H_setters_of F_setters g_setters
  have H_ways_set := has_ways_set bl H_is_within H_look_at H_can_be_so H_bounds H_ways H_look_at_sale F_ways_set g_ways_set
  have H_gains := has_gains bl H_look_at H_can_be_so H_bounds H_prices H_lots H_group_of H_reaches F_gains g_gains
  have H_gainsN := has_gainsN H_look_at H_can_be_so F_gains g_gains
  have H__law_well := has__law_well  F__law_well g__law_well
  have H__law_take := has__law_take  F__law_take g__law_take
  have H__law_some := has__law_some bl H__law_take F__law_some g__law_some
  have H__law_market := has__law_market bl H__law_take H__law_some F__law_market g__law_market
  have H__law_bent := has__law_bent bl H__law_take F__law_bent g__law_bent
  have H__law_fit := has__law_fit bl F__law_fit g__law_fit
  have H__law_ends := has__law_ends bl F__law_ends g__law_ends
  have H__law_ways := has__law_ways bl F__law_ways g__law_ways
  have H__law_with := has__law_with  F__law_with g__law_with
  have H__law_same := has__law_same bl F__law_same g__law_same 0
  have H__law_windows_so := has__law_windows_so bl H_worths H__law_fit H__law_with F__law_windows_so g__law_windows_so
  have H__law_sets_so := has__law_sets_so bl H_how_many H_setters H_ways_set H__law_ways H__law_same F__law_sets_so g__law_sets_so
  have BB : FnOk T.P T.w T.K T.mg T.base CX0 2 f__law_bags d__law_bags ["script", "most"] (spBags T.K 6) := by
    refine' bags_ok (m := 6) (n0 := 6) F__law_bags sc__law_bags H__law_well bl.enumerate rfl (by omega) ?hb ?g1 ?g2 ?v1 ?v2 ?v3 ?v4 ?hc ?s1 ?s2
    case hb => rfl
    case g1 => rfl
    case g2 => rfl
    case v1 => walk_at "vis"
    case v2 => walk_at "vis"
    case v3 => walk_at "vis"
    case v4 => walk_at "vis"
    case hc => decide +kernel
    case s1 => walk_at "st"
    case s2 => walk_at "st"
  refine law_ok (ib := 1) (k := 8) F_law sc_law BB F__law_bags.kp (F__law_bags.binds fun _ _ _ _ _ _ us hl => match us, hl with | [_, _], _ => rfl) g__law_bags (by omega) rfl (by walk_at "vis") rfl (by walk_at "st") rfl (fun b h0 => law_body bl H__law_take H__law_market H__law_ends H__law_same H_how_many H__law_ways H__law_windows_so H__law_sets_so H_gains H_gainsN H__law_bent H_worths rfl b h0) ?_
  exact exs_one (ex_ret ev_bl rfl)
theorem all_mk {l : PySem.W.OpenLaw} {w : World} {K : PySem.W.Frag} {h : Heap} {mg : Str → Option Value} {fa : Addr} (X : K.In h) (G : h.Ns mainGlobals mg) (hfa : mg "law" = some (.ref fa))
    {f0 : Addr} {od0 an0 : Option Addr} {sl0 : Array (Option Value)} {oc0 kV0 dc0 pm0 cd0 ct0 : Value}
    {f1 : Addr} {od1 an1 : Option Addr} {sl1 : Array (Option Value)} {oc1 kV1 dc1 pm1 cd1 ct1 : Value}
    {f2 : Addr} {od2 an2 : Option Addr} {sl2 : Array (Option Value)} {oc2 kV2 dc2 pm2 cd2 ct2 : Value}
    {f3 : Addr} {od3 an3 : Option Addr} {sl3 : Array (Option Value)} {oc3 kV3 dc3 pm3 cd3 ct3 : Value}
    {f4 : Addr} {od4 an4 : Option Addr} {sl4 : Array (Option Value)} {oc4 kV4 dc4 pm4 cd4 ct4 : Value}
    {f5 : Addr} {od5 an5 : Option Addr} {sl5 : Array (Option Value)} {oc5 kV5 dc5 pm5 cd5 ct5 : Value}
    {f6 : Addr} {od6 an6 : Option Addr} {sl6 : Array (Option Value)} {oc6 kV6 dc6 pm6 cd6 ct6 : Value}
    {f7 : Addr} {od7 an7 : Option Addr} {sl7 : Array (Option Value)} {oc7 kV7 dc7 pm7 cd7 ct7 : Value}
    {f8 : Addr} {od8 an8 : Option Addr} {sl8 : Array (Option Value)} {oc8 kV8 dc8 pm8 cd8 ct8 : Value}
    {f9 : Addr} {od9 an9 : Option Addr} {sl9 : Array (Option Value)} {oc9 kV9 dc9 pm9 cd9 ct9 : Value}
    {f10 : Addr} {od10 an10 : Option Addr} {sl10 : Array (Option Value)} {oc10 kV10 dc10 pm10 cd10 ct10 : Value}
    {f11 : Addr} {od11 an11 : Option Addr} {sl11 : Array (Option Value)} {oc11 kV11 dc11 pm11 cd11 ct11 : Value}
    {f12 : Addr} {od12 an12 : Option Addr} {sl12 : Array (Option Value)} {oc12 kV12 dc12 pm12 cd12 ct12 : Value}
    {f13 : Addr} {od13 an13 : Option Addr} {sl13 : Array (Option Value)} {oc13 kV13 dc13 pm13 cd13 ct13 : Value}
    {f14 : Addr} {od14 an14 : Option Addr} {sl14 : Array (Option Value)} {oc14 kV14 dc14 pm14 cd14 ct14 : Value}
    {f15 : Addr} {od15 an15 : Option Addr} {sl15 : Array (Option Value)} {oc15 kV15 dc15 pm15 cd15 ct15 : Value}
    {f16 : Addr} {od16 an16 : Option Addr} {sl16 : Array (Option Value)} {oc16 kV16 dc16 pm16 cd16 ct16 : Value}
    {f17 : Addr} {od17 an17 : Option Addr} {sl17 : Array (Option Value)} {oc17 kV17 dc17 pm17 cd17 ct17 : Value}
    {f18 : Addr} {od18 an18 : Option Addr} {sl18 : Array (Option Value)} {oc18 kV18 dc18 pm18 cd18 ct18 : Value}
    {f19 : Addr} {od19 an19 : Option Addr} {sl19 : Array (Option Value)} {oc19 kV19 dc19 pm19 cd19 ct19 : Value}
    {f20 : Addr} {od20 an20 : Option Addr} {sl20 : Array (Option Value)} {oc20 kV20 dc20 pm20 cd20 ct20 : Value}
    {f21 : Addr} {od21 an21 : Option Addr} {sl21 : Array (Option Value)} {oc21 kV21 dc21 pm21 cd21 ct21 : Value}
    {f22 : Addr} {od22 an22 : Option Addr} {sl22 : Array (Option Value)} {oc22 kV22 dc22 pm22 cd22 ct22 : Value}
    {f23 : Addr} {od23 an23 : Option Addr} {sl23 : Array (Option Value)} {oc23 kV23 dc23 pm23 cd23 ct23 : Value}
    {f24 : Addr} {od24 an24 : Option Addr} {sl24 : Array (Option Value)} {oc24 kV24 dc24 pm24 cd24 ct24 : Value}
    {f25 : Addr} {od25 an25 : Option Addr} {sl25 : Array (Option Value)} {oc25 kV25 dc25 pm25 cd25 ct25 : Value}
    {f26 : Addr} {od26 an26 : Option Addr} {sl26 : Array (Option Value)} {oc26 kV26 dc26 pm26 cd26 ct26 : Value}
    {f27 : Addr} {od27 an27 : Option Addr} {sl27 : Array (Option Value)} {oc27 kV27 dc27 pm27 cd27 ct27 : Value}
    {f28 : Addr} {od28 an28 : Option Addr} {sl28 : Array (Option Value)} {oc28 kV28 dc28 pm28 cd28 ct28 : Value}
    {f29 : Addr} {od29 an29 : Option Addr} {sl29 : Array (Option Value)} {oc29 kV29 dc29 pm29 cd29 ct29 : Value}
    {f30 : Addr} {od30 an30 : Option Addr} {sl30 : Array (Option Value)} {oc30 kV30 dc30 pm30 cd30 ct30 : Value}
    {f31 : Addr} {od31 an31 : Option Addr} {sl31 : Array (Option Value)} {oc31 kV31 dc31 pm31 cd31 ct31 : Value}
    {f32 : Addr} {od32 an32 : Option Addr} {sl32 : Array (Option Value)} {oc32 kV32 dc32 pm32 cd32 ct32 : Value}
    {f33 : Addr} {od33 an33 : Option Addr} {sl33 : Array (Option Value)} {oc33 kV33 dc33 pm33 cd33 ct33 : Value}
    {f34 : Addr} {od34 an34 : Option Addr} {sl34 : Array (Option Value)} {oc34 kV34 dc34 pm34 cd34 ct34 : Value}
    {f35 : Addr} {od35 an35 : Option Addr} {sl35 : Array (Option Value)} {oc35 kV35 dc35 pm35 cd35 ct35 : Value}
    {f36 : Addr} {od36 an36 : Option Addr} {sl36 : Array (Option Value)} {oc36 kV36 dc36 pm36 cd36 ct36 : Value}
    {f37 : Addr} {od37 an37 : Option Addr} {sl37 : Array (Option Value)} {oc37 kV37 dc37 pm37 cd37 ct37 : Value}
    {t0 : Tok}
    {t1 : Tok}
    {t2 : Tok}
    (a0 : PySem.W.nsIn K mainGlobals "is_whole" = some (some (.ref f0))) (l0 : K.lookup f0 = some ⟨oc0, od0, .func (PySem.W.fnOf "is_whole" "is_whole" (defArgs s_is_whole) (defBody s_is_whole) (defScope s_is_whole) .none kV0 dc0 pm0 an0 cd0 ct0), sl0⟩) (c0 : PySem.W.codeIn K cd0 "is_whole" = true) (k0 : PySem.W.keepIn K (.ref f0) = true)
    (a1 : PySem.W.nsIn K mainGlobals "is_within" = some (some (.ref f1))) (l1 : K.lookup f1 = some ⟨oc1, od1, .func (PySem.W.fnOf "is_within" "is_within" (defArgs s_is_within) (defBody s_is_within) (defScope s_is_within) .none kV1 dc1 pm1 an1 cd1 ct1), sl1⟩) (c1 : PySem.W.codeIn K cd1 "is_within" = true) (k1 : PySem.W.keepIn K (.ref f1) = true)
    (a2 : PySem.W.nsIn K mainGlobals "are_some" = some (some (.ref f2))) (l2 : K.lookup f2 = some ⟨oc2, od2, .func (PySem.W.fnOf "are_some" "are_some" (defArgs s_are_some) (defBody s_are_some) (defScope s_are_some) .none kV2 dc2 pm2 an2 cd2 ct2), sl2⟩) (c2 : PySem.W.codeIn K cd2 "are_some" = true) (k2 : PySem.W.keepIn K (.ref f2) = true)
    (a3 : PySem.W.nsIn K mainGlobals "is_sale" = some (some (.ref f3))) (l3 : K.lookup f3 = some ⟨oc3, od3, .func (PySem.W.fnOf "is_sale" "is_sale" (defArgs s_is_sale) (defBody s_is_sale) (defScope s_is_sale) .none kV3 dc3 pm3 an3 cd3 ct3), sl3⟩) (c3 : PySem.W.codeIn K cd3 "is_sale" = true) (k3 : PySem.W.keepIn K (.ref f3) = true)
    (a4 : PySem.W.nsIn K mainGlobals "look_at_market" = some (some (.ref f4))) (l4 : K.lookup f4 = some ⟨oc4, od4, .func (PySem.W.fnOf "look_at_market" "look_at_market" (defArgs s_look_at_market) (defBody s_look_at_market) (defScope s_look_at_market) .none kV4 dc4 pm4 an4 cd4 ct4), sl4⟩) (c4 : PySem.W.codeIn K cd4 "look_at_market" = true) (k4 : PySem.W.keepIn K (.ref f4) = true)
    (a5 : PySem.W.nsIn K mainGlobals "is_log_of" = some (some (.ref f5))) (l5 : K.lookup f5 = some ⟨oc5, od5, .func (PySem.W.fnOf "is_log_of" "is_log_of" (defArgs s_is_log_of) (defBody s_is_log_of) (defScope s_is_log_of) .none kV5 dc5 pm5 an5 cd5 ct5), sl5⟩) (c5 : PySem.W.codeIn K cd5 "is_log_of" = true) (k5 : PySem.W.keepIn K (.ref f5) = true)
    (a6 : PySem.W.nsIn K mainGlobals "look_at" = some (some (.ref f6))) (l6 : K.lookup f6 = some ⟨oc6, od6, .func (PySem.W.fnOf "look_at" "look_at" (defArgs s_look_at) (defBody s_look_at) (defScope s_look_at) .none kV6 dc6 pm6 an6 cd6 ct6), sl6⟩) (c6 : PySem.W.codeIn K cd6 "look_at" = true) (k6 : PySem.W.keepIn K (.ref f6) = true)
    (a7 : PySem.W.nsIn K mainGlobals "look_at_sale" = some (some (.ref f7))) (l7 : K.lookup f7 = some ⟨oc7, od7, .func (PySem.W.fnOf "look_at_sale" "look_at_sale" (defArgs s_look_at_sale) (defBody s_look_at_sale) (defScope s_look_at_sale) .none kV7 dc7 pm7 an7 cd7 ct7), sl7⟩) (c7 : PySem.W.codeIn K cd7 "look_at_sale" = true) (k7 : PySem.W.keepIn K (.ref f7) = true)
    (a8 : PySem.W.nsIn K mainGlobals "won_at" = some (some (.ref f8))) (l8 : K.lookup f8 = some ⟨oc8, od8, .func (PySem.W.fnOf "won_at" "won_at" (defArgs s_won_at) (defBody s_won_at) (defScope s_won_at) .none kV8 dc8 pm8 an8 cd8 ct8), sl8⟩) (c8 : PySem.W.codeIn K cd8 "won_at" = true) (k8 : PySem.W.keepIn K (.ref f8) = true)
    (a9 : PySem.W.nsIn K mainGlobals "lost_at" = some (some (.ref f9))) (l9 : K.lookup f9 = some ⟨oc9, od9, .func (PySem.W.fnOf "lost_at" "lost_at" (defArgs s_lost_at) (defBody s_lost_at) (defScope s_lost_at) .none kV9 dc9 pm9 an9 cd9 ct9), sl9⟩) (c9 : PySem.W.codeIn K cd9 "lost_at" = true) (k9 : PySem.W.keepIn K (.ref f9) = true)
    (a10 : PySem.W.nsIn K mainGlobals "bounds" = some (some (.ref f10))) (l10 : K.lookup f10 = some ⟨oc10, od10, .func (PySem.W.fnOf "bounds" "bounds" (defArgs s_bounds) (defBody s_bounds) (defScope s_bounds) .none kV10 dc10 pm10 an10 cd10 ct10), sl10⟩) (c10 : PySem.W.codeIn K cd10 "bounds" = true) (k10 : PySem.W.keepIn K (.ref f10) = true)
    (a11 : PySem.W.nsIn K mainGlobals "setters_of" = some (some (.ref f11))) (l11 : K.lookup f11 = some ⟨oc11, od11, .func (PySem.W.fnOf "setters_of" "setters_of" (defArgs s_setters_of) (defBody s_setters_of) (defScope s_setters_of) .none kV11 dc11 pm11 an11 cd11 ct11), sl11⟩) (c11 : PySem.W.codeIn K cd11 "setters_of" = true) (k11 : PySem.W.keepIn K (.ref f11) = true)
    (a12 : PySem.W.nsIn K mainGlobals "can_be_so" = some (some (.ref f12))) (l12 : K.lookup f12 = some ⟨oc12, od12, .func (PySem.W.fnOf "can_be_so" "can_be_so" (defArgs s_can_be_so) (defBody s_can_be_so) (defScope s_can_be_so) .none kV12 dc12 pm12 an12 cd12 ct12), sl12⟩) (c12 : PySem.W.codeIn K cd12 "can_be_so" = true) (k12 : PySem.W.keepIn K (.ref f12) = true)
    (a13 : PySem.W.nsIn K mainGlobals "lots" = some (some (.ref f13))) (l13 : K.lookup f13 = some ⟨oc13, od13, .func (PySem.W.fnOf "lots" "lots" (defArgs s_lots) (defBody s_lots) (defScope s_lots) .none kV13 dc13 pm13 an13 cd13 ct13), sl13⟩) (c13 : PySem.W.codeIn K cd13 "lots" = true) (k13 : PySem.W.keepIn K (.ref f13) = true)
    (a14 : PySem.W.nsIn K mainGlobals "reaches" = some (some (.ref f14))) (l14 : K.lookup f14 = some ⟨oc14, od14, .func (PySem.W.fnOf "reaches" "reaches" (defArgs s_reaches) (defBody s_reaches) (defScope s_reaches) .none kV14 dc14 pm14 an14 cd14 ct14), sl14⟩) (c14 : PySem.W.codeIn K cd14 "reaches" = true) (k14 : PySem.W.keepIn K (.ref f14) = true)
    (a15 : PySem.W.nsIn K mainGlobals "group_of" = some (some (.ref f15))) (l15 : K.lookup f15 = some ⟨oc15, od15, .func (PySem.W.fnOf "group_of" "group_of" (defArgs s_group_of) (defBody s_group_of) (defScope s_group_of) .none kV15 dc15 pm15 an15 cd15 ct15), sl15⟩) (c15 : PySem.W.codeIn K cd15 "group_of" = true) (k15 : PySem.W.keepIn K (.ref f15) = true)
    (a16 : PySem.W.nsIn K mainGlobals "prices" = some (some (.ref f16))) (l16 : K.lookup f16 = some ⟨oc16, od16, .func (PySem.W.fnOf "prices" "prices" (defArgs s_prices) (defBody s_prices) (defScope s_prices) .none kV16 dc16 pm16 an16 cd16 ct16), sl16⟩) (c16 : PySem.W.codeIn K cd16 "prices" = true) (k16 : PySem.W.keepIn K (.ref f16) = true)
    (a17 : PySem.W.nsIn K mainGlobals "ways" = some (some (.ref f17))) (l17 : K.lookup f17 = some ⟨oc17, od17, .func (PySem.W.fnOf "ways" "ways" (defArgs s_ways) (defBody s_ways) (defScope s_ways) .none kV17 dc17 pm17 an17 cd17 ct17), sl17⟩) (c17 : PySem.W.codeIn K cd17 "ways" = true) (k17 : PySem.W.keepIn K (.ref f17) = true)
    (a18 : PySem.W.nsIn K mainGlobals "how_many" = some (some (.ref f18))) (l18 : K.lookup f18 = some ⟨oc18, od18, .func (PySem.W.fnOf "how_many" "how_many" (defArgs s_how_many) (defBody s_how_many) (defScope s_how_many) .none kV18 dc18 pm18 an18 cd18 ct18), sl18⟩) (c18 : PySem.W.codeIn K cd18 "how_many" = true) (k18 : PySem.W.keepIn K (.ref f18) = true)
    (a19 : PySem.W.nsIn K mainGlobals "alone_at" = some (some (.ref f19))) (l19 : K.lookup f19 = some ⟨oc19, od19, .func (PySem.W.fnOf "alone_at" "alone_at" (defArgs s_alone_at) (defBody s_alone_at) (defScope s_alone_at) .none kV19 dc19 pm19 an19 cd19 ct19), sl19⟩) (c19 : PySem.W.codeIn K cd19 "alone_at" = true) (k19 : PySem.W.keepIn K (.ref f19) = true)
    (a20 : PySem.W.nsIn K mainGlobals "worths" = some (some (.ref f20))) (l20 : K.lookup f20 = some ⟨oc20, od20, .func (PySem.W.fnOf "worths" "worths" (defArgs s_worths) (defBody s_worths) (defScope s_worths) .none kV20 dc20 pm20 an20 cd20 ct20), sl20⟩) (c20 : PySem.W.codeIn K cd20 "worths" = true) (k20 : PySem.W.keepIn K (.ref f20) = true)
    (a21 : PySem.W.nsIn K mainGlobals "setters" = some (some (.ref f21))) (l21 : K.lookup f21 = some ⟨oc21, od21, .func (PySem.W.fnOf "setters" "setters" (defArgs s_setters) (defBody s_setters) (defScope s_setters) .none kV21 dc21 pm21 an21 cd21 ct21), sl21⟩) (c21 : PySem.W.codeIn K cd21 "setters" = true) (k21 : PySem.W.keepIn K (.ref f21) = true)
    (a22 : PySem.W.nsIn K mainGlobals "ways_set" = some (some (.ref f22))) (l22 : K.lookup f22 = some ⟨oc22, od22, .func (PySem.W.fnOf "ways_set" "ways_set" (defArgs s_ways_set) (defBody s_ways_set) (defScope s_ways_set) .none kV22 dc22 pm22 an22 cd22 ct22), sl22⟩) (c22 : PySem.W.codeIn K cd22 "ways_set" = true) (k22 : PySem.W.keepIn K (.ref f22) = true)
    (a23 : PySem.W.nsIn K mainGlobals "gains" = some (some (.ref f23))) (l23 : K.lookup f23 = some ⟨oc23, od23, .func (PySem.W.fnOf "gains" "gains" (defArgs s_gains) (defBody s_gains) (defScope s_gains) .none kV23 dc23 pm23 an23 cd23 ct23), sl23⟩) (c23 : PySem.W.codeIn K cd23 "gains" = true) (k23 : PySem.W.keepIn K (.ref f23) = true)
    (a24 : PySem.W.nsIn K mainGlobals "_law_well" = some (some (.ref f24))) (l24 : K.lookup f24 = some ⟨oc24, od24, .func (PySem.W.fnOf "_law_well" "_law_well" (defArgs s__law_well) (defBody s__law_well) (defScope s__law_well) .none kV24 dc24 pm24 an24 cd24 ct24), sl24⟩) (c24 : PySem.W.codeIn K cd24 "_law_well" = true) (k24 : PySem.W.keepIn K (.ref f24) = true)
    (a25 : PySem.W.nsIn K mainGlobals "_law_take" = some (some (.ref f25))) (l25 : K.lookup f25 = some ⟨oc25, od25, .func (PySem.W.fnOf "_law_take" "_law_take" (defArgs s__law_take) (defBody s__law_take) (defScope s__law_take) .none kV25 dc25 pm25 an25 cd25 ct25), sl25⟩) (c25 : PySem.W.codeIn K cd25 "_law_take" = true) (k25 : PySem.W.keepIn K (.ref f25) = true)
    (a26 : PySem.W.nsIn K mainGlobals "_law_bags" = some (some (.ref f26))) (l26 : K.lookup f26 = some ⟨oc26, od26, .func (PySem.W.fnOf "_law_bags" "_law_bags" (defArgs s__law_bags) (defBody s__law_bags) (defScope s__law_bags) .none kV26 dc26 pm26 an26 cd26 ct26), sl26⟩) (c26 : PySem.W.codeIn K cd26 "_law_bags" = true) (k26 : PySem.W.keepIn K (.ref f26) = true)
    (a27 : PySem.W.nsIn K mainGlobals "_law_same" = some (some (.ref f27))) (l27 : K.lookup f27 = some ⟨oc27, od27, .func (PySem.W.fnOf "_law_same" "_law_same" (defArgs s__law_same) (defBody s__law_same) (defScope s__law_same) .none kV27 dc27 pm27 an27 cd27 ct27), sl27⟩) (c27 : PySem.W.codeIn K cd27 "_law_same" = true) (k27 : PySem.W.keepIn K (.ref f27) = true)
    (a28 : PySem.W.nsIn K mainGlobals "_law_some" = some (some (.ref f28))) (l28 : K.lookup f28 = some ⟨oc28, od28, .func (PySem.W.fnOf "_law_some" "_law_some" (defArgs s__law_some) (defBody s__law_some) (defScope s__law_some) .none kV28 dc28 pm28 an28 cd28 ct28), sl28⟩) (c28 : PySem.W.codeIn K cd28 "_law_some" = true) (k28 : PySem.W.keepIn K (.ref f28) = true)
    (a29 : PySem.W.nsIn K mainGlobals "_law_market" = some (some (.ref f29))) (l29 : K.lookup f29 = some ⟨oc29, od29, .func (PySem.W.fnOf "_law_market" "_law_market" (defArgs s__law_market) (defBody s__law_market) (defScope s__law_market) .none kV29 dc29 pm29 an29 cd29 ct29), sl29⟩) (c29 : PySem.W.codeIn K cd29 "_law_market" = true) (k29 : PySem.W.keepIn K (.ref f29) = true)
    (a30 : PySem.W.nsIn K mainGlobals "_law_bent" = some (some (.ref f30))) (l30 : K.lookup f30 = some ⟨oc30, od30, .func (PySem.W.fnOf "_law_bent" "_law_bent" (defArgs s__law_bent) (defBody s__law_bent) (defScope s__law_bent) .none kV30 dc30 pm30 an30 cd30 ct30), sl30⟩) (c30 : PySem.W.codeIn K cd30 "_law_bent" = true) (k30 : PySem.W.keepIn K (.ref f30) = true)
    (a31 : PySem.W.nsIn K mainGlobals "_law_fit" = some (some (.ref f31))) (l31 : K.lookup f31 = some ⟨oc31, od31, .func (PySem.W.fnOf "_law_fit" "_law_fit" (defArgs s__law_fit) (defBody s__law_fit) (defScope s__law_fit) .none kV31 dc31 pm31 an31 cd31 ct31), sl31⟩) (c31 : PySem.W.codeIn K cd31 "_law_fit" = true) (k31 : PySem.W.keepIn K (.ref f31) = true)
    (a32 : PySem.W.nsIn K mainGlobals "_law_ends" = some (some (.ref f32))) (l32 : K.lookup f32 = some ⟨oc32, od32, .func (PySem.W.fnOf "_law_ends" "_law_ends" (defArgs s__law_ends) (defBody s__law_ends) (defScope s__law_ends) .none kV32 dc32 pm32 an32 cd32 ct32), sl32⟩) (c32 : PySem.W.codeIn K cd32 "_law_ends" = true) (k32 : PySem.W.keepIn K (.ref f32) = true)
    (a33 : PySem.W.nsIn K mainGlobals "_law_ways" = some (some (.ref f33))) (l33 : K.lookup f33 = some ⟨oc33, od33, .func (PySem.W.fnOf "_law_ways" "_law_ways" (defArgs s__law_ways) (defBody s__law_ways) (defScope s__law_ways) .none kV33 dc33 pm33 an33 cd33 ct33), sl33⟩) (c33 : PySem.W.codeIn K cd33 "_law_ways" = true) (k33 : PySem.W.keepIn K (.ref f33) = true)
    (a34 : PySem.W.nsIn K mainGlobals "_law_with" = some (some (.ref f34))) (l34 : K.lookup f34 = some ⟨oc34, od34, .func (PySem.W.fnOf "_law_with" "_law_with" (defArgs s__law_with) (defBody s__law_with) (defScope s__law_with) .none kV34 dc34 pm34 an34 cd34 ct34), sl34⟩) (c34 : PySem.W.codeIn K cd34 "_law_with" = true) (k34 : PySem.W.keepIn K (.ref f34) = true)
    (a35 : PySem.W.nsIn K mainGlobals "_law_windows_so" = some (some (.ref f35))) (l35 : K.lookup f35 = some ⟨oc35, od35, .func (PySem.W.fnOf "_law_windows_so" "_law_windows_so" (defArgs s__law_windows_so) (defBody s__law_windows_so) (defScope s__law_windows_so) .none kV35 dc35 pm35 an35 cd35 ct35), sl35⟩) (c35 : PySem.W.codeIn K cd35 "_law_windows_so" = true) (k35 : PySem.W.keepIn K (.ref f35) = true)
    (a36 : PySem.W.nsIn K mainGlobals "_law_sets_so" = some (some (.ref f36))) (l36 : K.lookup f36 = some ⟨oc36, od36, .func (PySem.W.fnOf "_law_sets_so" "_law_sets_so" (defArgs s__law_sets_so) (defBody s__law_sets_so) (defScope s__law_sets_so) .none kV36 dc36 pm36 an36 cd36 ct36), sl36⟩) (c36 : PySem.W.codeIn K cd36 "_law_sets_so" = true) (k36 : PySem.W.keepIn K (.ref f36) = true)
    (a37 : PySem.W.nsIn K mainGlobals "law" = some (some (.ref f37))) (l37 : K.lookup f37 = some ⟨oc37, od37, .func (PySem.W.fnOf "law" "law" (defArgs s_law) (defBody s_law) (defScope s_law) .none kV37 dc37 pm37 an37 cd37 ct37), sl37⟩) (c37 : PySem.W.codeIn K cd37 "law" = true) (k37 : PySem.W.keepIn K (.ref f37) = true)
    (v0 : PySem.W.nsIn K mainGlobals "MOST_FOLK" = some (some (.int 8 t0)))
    (v1 : PySem.W.nsIn K mainGlobals "MOST_TOP" = some (some (.int 1000 t1)))
    (v2 : PySem.W.nsIn K mainGlobals "MOST_SALES" = some (some (.int 8 t2)))
    (z0 : PySem.W.nsIn K mainGlobals "len" = some none)
    (z1 : PySem.W.nsIn K mainGlobals "all" = some none)
    (z2 : PySem.W.nsIn K mainGlobals "any" = some none)
    (z3 : PySem.W.nsIn K mainGlobals "sum" = some none)
    (z4 : PySem.W.nsIn K mainGlobals "max" = some none)
    (z5 : PySem.W.nsIn K mainGlobals "min" = some none)
    (z6 : PySem.W.nsIn K mainGlobals "sorted" = some none)
    (z7 : PySem.W.nsIn K mainGlobals "range" = some none)
    (z8 : PySem.W.nsIn K mainGlobals "zip" = some none)
    (z9 : PySem.W.nsIn K mainGlobals "enumerate" = some none)
    (z10 : PySem.W.nsIn K mainGlobals "list" = some none)
    (z11 : PySem.W.nsIn K mainGlobals "tuple" = some none)
    (z12 : PySem.W.nsIn K mainGlobals "isinstance" = some none)
    (z13 : PySem.W.nsIn K mainGlobals "int" = some none)
    (z14 : PySem.W.nsIn K mainGlobals "bool" = some none)
    (z15 : PySem.W.nsIn K mainGlobals "str" = some none)
    : ∃ fd : FuncData, (∀ (s : Shared) (v : Value), BindsTo s fd ⟨[v], []⟩ [("script", v)]) ∧ ∀ base : Heap, K.In base → base.Ns mainGlobals mg → FnOk l.prog w K mg base CX0 9 fa fd ["script"] (spLaw K) := by
  have e := hfa.symm.trans (PySem.W.mg_of X G a37)
  cases e
  have bl : ∀ base, Bl ⟨l.prog, w, K, mg, base⟩ := fun base => ⟨PySem.W.mg_none_of X G z0, PySem.W.mg_none_of X G z1, PySem.W.mg_none_of X G z2, PySem.W.mg_none_of X G z3, PySem.W.mg_none_of X G z4, PySem.W.mg_none_of X G z5, PySem.W.mg_none_of X G z6, PySem.W.mg_none_of X G z7, PySem.W.mg_none_of X G z8, PySem.W.mg_none_of X G z9, PySem.W.mg_none_of X G z10, PySem.W.mg_none_of X G z11, PySem.W.mg_none_of X G z12, PySem.W.mg_none_of X G z13, PySem.W.mg_none_of X G z14, PySem.W.mg_none_of X G z15⟩
  refine ⟨PySem.W.fnOf "law" "law" (defArgs s_law) (defBody s_law) (defScope s_law) .none kV37 dc37 pm37 an37 cd37 ct37, fun s v => .of_eq rfl, fun base _ _ => ?_⟩
  exact law_fn (T := ⟨l.prog, w, K, mg, base⟩) (bl base)  ⟨_, PySem.W.mg_of X G v0⟩ ⟨_, PySem.W.mg_of X G v1⟩ ⟨_, PySem.W.mg_of X G v2⟩ (fun_mk (st := s_is_whole) l0 c0 k0) (PySem.W.mg_of X G a0) (fun_mk (st := s_is_within) l1 c1 k1) (PySem.W.mg_of X G a1) (fun_mk (st := s_are_some) l2 c2 k2) (PySem.W.mg_of X G a2) (fun_mk (st := s_is_sale) l3 c3 k3) (PySem.W.mg_of X G a3) (fun_mk (st := s_look_at_market) l4 c4 k4) (PySem.W.mg_of X G a4) (fun_mk (st := s_is_log_of) l5 c5 k5) (PySem.W.mg_of X G a5) (fun_mk (st := s_look_at) l6 c6 k6) (PySem.W.mg_of X G a6) (fun_mk (st := s_look_at_sale) l7 c7 k7) (PySem.W.mg_of X G a7) (fun_mk (st := s_won_at) l8 c8 k8) (PySem.W.mg_of X G a8) (fun_mk (st := s_lost_at) l9 c9 k9) (PySem.W.mg_of X G a9) (fun_mk (st := s_bounds) l10 c10 k10) (PySem.W.mg_of X G a10) (fun_mk (st := s_setters_of) l11 c11 k11) (PySem.W.mg_of X G a11) (fun_mk (st := s_can_be_so) l12 c12 k12) (PySem.W.mg_of X G a12) (fun_mk (st := s_lots) l13 c13 k13) (PySem.W.mg_of X G a13) (fun_mk (st := s_reaches) l14 c14 k14) (PySem.W.mg_of X G a14) (fun_mk (st := s_group_of) l15 c15 k15) (PySem.W.mg_of X G a15) (fun_mk (st := s_prices) l16 c16 k16) (PySem.W.mg_of X G a16) (fun_mk (st := s_ways) l17 c17 k17) (PySem.W.mg_of X G a17) (fun_mk (st := s_how_many) l18 c18 k18) (PySem.W.mg_of X G a18) (fun_mk (st := s_alone_at) l19 c19 k19) (PySem.W.mg_of X G a19) (fun_mk (st := s_worths) l20 c20 k20) (PySem.W.mg_of X G a20) (fun_mk (st := s_setters) l21 c21 k21) (PySem.W.mg_of X G a21) (fun_mk (st := s_ways_set) l22 c22 k22) (PySem.W.mg_of X G a22) (fun_mk (st := s_gains) l23 c23 k23) (PySem.W.mg_of X G a23) (fun_mk (st := s__law_well) l24 c24 k24) (PySem.W.mg_of X G a24) (fun_mk (st := s__law_take) l25 c25 k25) (PySem.W.mg_of X G a25) (fun_mk (st := s__law_bags) l26 c26 k26) (PySem.W.mg_of X G a26) (fun_mk (st := s__law_same) l27 c27 k27) (PySem.W.mg_of X G a27) (fun_mk (st := s__law_some) l28 c28 k28) (PySem.W.mg_of X G a28) (fun_mk (st := s__law_market) l29 c29 k29) (PySem.W.mg_of X G a29) (fun_mk (st := s__law_bent) l30 c30 k30) (PySem.W.mg_of X G a30) (fun_mk (st := s__law_fit) l31 c31 k31) (PySem.W.mg_of X G a31) (fun_mk (st := s__law_ends) l32 c32 k32) (PySem.W.mg_of X G a32) (fun_mk (st := s__law_ways) l33 c33 k33) (PySem.W.mg_of X G a33) (fun_mk (st := s__law_with) l34 c34 k34) (PySem.W.mg_of X G a34) (fun_mk (st := s__law_windows_so) l35 c35 k35) (PySem.W.mg_of X G a35) (fun_mk (st := s__law_sets_so) l36 c36 k36) (PySem.W.mg_of X G a36) (fun_mk (st := s_law) l37 c37 k37) (PySem.W.mg_of X G a37)
end PD
open PySem PySem.W PyProof.Rows
set_option maxHeartbeats 0 in
theorem PySem.Challenge.cw_paidsecond_k04_whole_many_folk_holds : PySem.Challenge.rw_paidsecond_k04_whole_many_folk.Holds := by
  w_on; o_law; k_head; (case hw => w_witness2)
  k_fill
  refine L2.walk_of (l := PySem.Challenge.rw_paidsecond_k04_whole_many_folk) (n := 63) (k := 9) (x := "script") (CX := fun _ => L2.CX0) (sp := fun w => PD.spLaw _) rfl (by decide) rfl ⟨rfl, by decide, by decide⟩ (fun w h Y => PySem.W.kIn_of Y) ?F (fun _ _ a ns hl _ hS => ⟨a, ns, rfl, hS, hl, fun _ => rfl⟩) (fun _ _ _ _ _ h => h)
  case F =>
    intro w mg fa h KX G hmg
    refine' PD.all_mk KX G hmg ?a0 ?l0 ?c0 ?k0 ?a1 ?l1 ?c1 ?k1 ?a2 ?l2 ?c2 ?k2 ?a3 ?l3 ?c3 ?k3 ?a4 ?l4 ?c4 ?k4 ?a5 ?l5 ?c5 ?k5 ?a6 ?l6 ?c6 ?k6 ?a7 ?l7 ?c7 ?k7 ?a8 ?l8 ?c8 ?k8 ?a9 ?l9 ?c9 ?k9 ?a10 ?l10 ?c10 ?k10 ?a11 ?l11 ?c11 ?k11 ?a12 ?l12 ?c12 ?k12 ?a13 ?l13 ?c13 ?k13 ?a14 ?l14 ?c14 ?k14 ?a15 ?l15 ?c15 ?k15 ?a16 ?l16 ?c16 ?k16 ?a17 ?l17 ?c17 ?k17 ?a18 ?l18 ?c18 ?k18 ?a19 ?l19 ?c19 ?k19 ?a20 ?l20 ?c20 ?k20 ?a21 ?l21 ?c21 ?k21 ?a22 ?l22 ?c22 ?k22 ?a23 ?l23 ?c23 ?k23 ?a24 ?l24 ?c24 ?k24 ?a25 ?l25 ?c25 ?k25 ?a26 ?l26 ?c26 ?k26 ?a27 ?l27 ?c27 ?k27 ?a28 ?l28 ?c28 ?k28 ?a29 ?l29 ?c29 ?k29 ?a30 ?l30 ?c30 ?k30 ?a31 ?l31 ?c31 ?k31 ?a32 ?l32 ?c32 ?k32 ?a33 ?l33 ?c33 ?k33 ?a34 ?l34 ?c34 ?k34 ?a35 ?l35 ?c35 ?k35 ?a36 ?l36 ?c36 ?k36 ?a37 ?l37 ?c37 ?k37 ?v0 ?v1 ?v2 ?z0 ?z1 ?z2 ?z3 ?z4 ?z5 ?z6 ?z7 ?z8 ?z9 ?z10 ?z11 ?z12 ?z13 ?z14 ?z15
    (case a0 => k_is)
    (case l0 => k_is)
    (case c0 => k_is)
    (case k0 => k_is)
    (case a1 => k_is)
    (case l1 => k_is)
    (case c1 => k_is)
    (case k1 => k_is)
    (case a2 => k_is)
    (case l2 => k_is)
    (case c2 => k_is)
    (case k2 => k_is)
    (case a3 => k_is)
    (case l3 => k_is)
    (case c3 => k_is)
    (case k3 => k_is)
    (case a4 => k_is)
    (case l4 => k_is)
    (case c4 => k_is)
    (case k4 => k_is)
    (case a5 => k_is)
    (case l5 => k_is)
    (case c5 => k_is)
    (case k5 => k_is)
    (case a6 => k_is)
    (case l6 => k_is)
    (case c6 => k_is)
    (case k6 => k_is)
    (case a7 => k_is)
    (case l7 => k_is)
    (case c7 => k_is)
    (case k7 => k_is)
    (case a8 => k_is)
    (case l8 => k_is)
    (case c8 => k_is)
    (case k8 => k_is)
    (case a9 => k_is)
    (case l9 => k_is)
    (case c9 => k_is)
    (case k9 => k_is)
    (case a10 => k_is)
    (case l10 => k_is)
    (case c10 => k_is)
    (case k10 => k_is)
    (case a11 => k_is)
    (case l11 => k_is)
    (case c11 => k_is)
    (case k11 => k_is)
    (case a12 => k_is)
    (case l12 => k_is)
    (case c12 => k_is)
    (case k12 => k_is)
    (case a13 => k_is)
    (case l13 => k_is)
    (case c13 => k_is)
    (case k13 => k_is)
    (case a14 => k_is)
    (case l14 => k_is)
    (case c14 => k_is)
    (case k14 => k_is)
    (case a15 => k_is)
    (case l15 => k_is)
    (case c15 => k_is)
    (case k15 => k_is)
    (case a16 => k_is)
    (case l16 => k_is)
    (case c16 => k_is)
    (case k16 => k_is)
    (case a17 => k_is)
    (case l17 => k_is)
    (case c17 => k_is)
    (case k17 => k_is)
    (case a18 => k_is)
    (case l18 => k_is)
    (case c18 => k_is)
    (case k18 => k_is)
    (case a19 => k_is)
    (case l19 => k_is)
    (case c19 => k_is)
    (case k19 => k_is)
    (case a20 => k_is)
    (case l20 => k_is)
    (case c20 => k_is)
    (case k20 => k_is)
    (case a21 => k_is)
    (case l21 => k_is)
    (case c21 => k_is)
    (case k21 => k_is)
    (case a22 => k_is)
    (case l22 => k_is)
    (case c22 => k_is)
    (case k22 => k_is)
    (case a23 => k_is)
    (case l23 => k_is)
    (case c23 => k_is)
    (case k23 => k_is)
    (case a24 => k_is)
    (case l24 => k_is)
    (case c24 => k_is)
    (case k24 => k_is)
    (case a25 => k_is)
    (case l25 => k_is)
    (case c25 => k_is)
    (case k25 => k_is)
    (case a26 => k_is)
    (case l26 => k_is)
    (case c26 => k_is)
    (case k26 => k_is)
    (case a27 => k_is)
    (case l27 => k_is)
    (case c27 => k_is)
    (case k27 => k_is)
    (case a28 => k_is)
    (case l28 => k_is)
    (case c28 => k_is)
    (case k28 => k_is)
    (case a29 => k_is)
    (case l29 => k_is)
    (case c29 => k_is)
    (case k29 => k_is)
    (case a30 => k_is)
    (case l30 => k_is)
    (case c30 => k_is)
    (case k30 => k_is)
    (case a31 => k_is)
    (case l31 => k_is)
    (case c31 => k_is)
    (case k31 => k_is)
    (case a32 => k_is)
    (case l32 => k_is)
    (case c32 => k_is)
    (case k32 => k_is)
    (case a33 => k_is)
    (case l33 => k_is)
    (case c33 => k_is)
    (case k33 => k_is)
    (case a34 => k_is)
    (case l34 => k_is)
    (case c34 => k_is)
    (case k34 => k_is)
    (case a35 => k_is)
    (case l35 => k_is)
    (case c35 => k_is)
    (case k35 => k_is)
    (case a36 => k_is)
    (case l36 => k_is)
    (case c36 => k_is)
    (case k36 => k_is)
    (case a37 => k_is)
    (case l37 => k_is)
    (case c37 => k_is)
    (case k37 => k_is)
    (case v0 => k_is)
    (case v1 => k_is)
    (case v2 => k_is)
    (case z0 => k_is)
    (case z1 => k_is)
    (case z2 => k_is)
    (case z3 => k_is)
    (case z4 => k_is)
    (case z5 => k_is)
    (case z6 => k_is)
    (case z7 => k_is)
    (case z8 => k_is)
    (case z9 => k_is)
    (case z10 => k_is)
    (case z11 => k_is)
    (case z12 => k_is)
    (case z13 => k_is)
    (case z14 => k_is)
    (case z15 => k_is)
