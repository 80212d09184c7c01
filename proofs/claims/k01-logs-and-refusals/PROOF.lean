import PyProof.Rows.All
import Wide.All
import OpenK.AllK
import Wide.FinOn
import HandS.ForMost
import HandS.IsInst
import HandS.DictComp
import HandS.TupAny
import HandS.TupMul
import HandS.Conv
import HandS.Zip
import HandS.Walk
import HandS.EndTab
import HandS.ExcCtx
import HandS.ExcIs
import HandS.HotCalls
import HandS.Lambda
import HandS.SortInts
import HandS.SortKw
import HandS.Style
import HandS.Wide
import KE.DataMinMax
import KE.GoesMore
import KE.GoesZip
import KE.KDictPairs
import KE.KNest
import KE.SortData
import PySem.Challenge.RW_paidsecond_k01_what_are_logs_and_who_is
set_option Elab.async false
set_option maxRecDepth 100000
set_option maxHeartbeats 4000000
set_option autoImplicit false
set_option linter.unusedVariables false
namespace PD
open PySem PySem.Spec PyProof.Rows L2

/-! ### plain data -/
/-- a lambda's own text -/
structure LamI where
  qual : Str
  params : Arguments
  body : Expr
  scope : Scope
inductive D where
  | non | bl (b : Bool) | int (i : Int) | str (x : Str) | tup (ds : List D) | lst (ds : List D) | dct (kvs : List (Key × D)) | bag | val (v : V) | scr (ns : List Int)
  | lmv (L : LamI) (cl : List (Str × Addr)) | lam (L : LamI) (ns : List Str) (ds : List D)
/-- what an own thing holds -/
inductive Ct where
  | l (ds : List D) | m (kvs : List (Key × D))
/-- a slot: unknown, data, an own thing -/
inductive Sl where
  | u | d (x : D) | o (c : Ct)
abbrev Bag := Int × Int × Int
abbrev Rho := List Sl
def bagH (B : Bag) : HO := .lst [.int B.1, .int B.2.1, .int B.2.2]
/-- the fragment, and the tables of code objects -/
structure KT where
  fr : PySem.W.Frag
  T : List (Addr × Str)
instance : Coe KT PySem.W.Frag := ⟨KT.fr⟩
def LamO (f c' : Addr) (L : LamI) (cl : List (Str × Addr)) : HO := .ext fun h => ∃ pm ctv, h.get? f = some (PySem.W.kla_obj "<lambda>" L.qual L.params L.body L.scope cl pm c' ctv)
def CellO (c : Addr) (v : V) : HO := .ext fun h => ∃ u, h.IsCell c (some u) ∧ RelV v u

mutual
inductive Rep (K : PySem.W.Frag) (β : Option Addr) (F : Hp) : D → V → Prop
  | non : Rep K β F .non .non
  | bl (b : Bool) : Rep K β F (.bl b) (.bl b)
  | int (i : Int) : Rep K β F (.int i) (.int i)
  | str (x : Str) : Rep K β F (.str x) (.str x)
  | tup {a : Addr} {xs : List V} {ds : List D} : SqT K F a xs → xs.length ≤ sizeLine → RepAll K β F ds xs → Rep K β F (.tup ds) (.ref a)
  | lst {a : Addr} {xs : List V} {ds : List D} : F a = some (.lst xs) → xs.length ≤ sizeLine → RepAll K β F ds xs → Rep K β F (.lst ds) (.ref a)
  | dct {a : Addr} {kvs : List (Key × D)} {ks : List Key} {ds : List D} {kws : List (Key × V)} {vs : List V} : F a = some (.dK kws) → kws.length ≤ sizeLine → kvs = ks.zip ds → kws = ks.zip vs → ks.length = vs.length → RepAll K β F ds vs → Rep K β F (.dct kvs) (.ref a)
  | bag {a : Addr} : β = some a → Rep K β F .bag (.ref a)
  | val (v : V) : Rep K β F (.val v) v
  | scr {a : Addr} {ns : List Int} : SqL K F a (ns.map V.int) → Rep K β F (.scr ns) (.ref a)
  | lmv {f c' : Addr} {L : LamI} {cl : List (Str × Addr)} : F f = some (LamO f c' L cl) → F c' = some (LamX.CodeO c' L.qual) → Rep K β F (.lmv L cl) (.ref f)
  | lam {f c' : Addr} {L : LamI} {cl : List (Str × Addr)} {ns : List Str} {ds : List D} {vs : List V} : F f = some (LamO f c' L cl) → F c' = some (LamX.CodeO c' L.qual) → ns = cl.map (·.1) → cl.length = vs.length → (∀ x y c, cl.lookup x = some c → cl.lookup y = some c → x = y) →
      (∀ (i : Nat) (c : Addr) (v : V), (cl.map (·.2))[i]? = some c → vs[i]? = some v → F c = some (CellO c v)) → RepAll K β F ds vs → Rep K β F (.lam L ns ds) (.ref f)
inductive RepAll (K : PySem.W.Frag) (β : Option Addr) (F : Hp) : List D → List V → Prop
  | nil : RepAll K β F [] []
  | cons {d : D} {ds : List D} {v : V} {vs : List V} : Rep K β F d v → RepAll K β F ds vs → RepAll K β F (d :: ds) (v :: vs)
end

theorem Same.seqT {K : PySem.W.Frag} {H H' : Hp} {a : Addr} {xs : List V} (e : Same H H') (h : SqT K H a xs) : SqT K H' a xs := by
  rcases h with (h | ⟨o, h⟩) | h
  · exact .inl (.inl (e _ _ h))
  · exact .inl (.inr ⟨o, e _ _ h⟩)
  · exact .inr h
section
variable {K : PySem.W.Frag} {β : Option Addr} {F F' : Hp}
mutual
theorem Rep.mono (e : Same F F') : ∀ {d : D} {v : V}, Rep K β F d v → Rep K β F' d v
  | _, _, .non => .non
  | _, _, .bl b => .bl b
  | _, _, .int i => .int i
  | _, _, .str x => .str x
  | _, _, .tup h l r => .tup (Same.seqT e h) l (RepAll.mono e r)
  | _, _, .lst h l r => .lst (e _ _ h) l (RepAll.mono e r)
  | _, _, .dct h l z1 z2 z3 r => .dct (e _ _ h) l z1 z2 z3 (RepAll.mono e r)
  | _, _, .bag h => .bag h
  | _, _, .val v => .val v
  | _, _, .scr h => .scr (e.seq h)
  | _, _, .lmv h1 h2 => .lmv (e _ _ h1) (e _ _ h2)
  | _, _, .lam h1 h2 h3 h4 h6 h5 r => .lam (e _ _ h1) (e _ _ h2) h3 h4 h6 (fun i c v q1 q2 => e _ _ (h5 i c v q1 q2)) (RepAll.mono e r)
theorem RepAll.mono (e : Same F F') : ∀ {ds : List D} {vs : List V}, RepAll K β F ds vs → RepAll K β F' ds vs
  | _, _, .nil => .nil
  | _, _, .cons h t => .cons (Rep.mono e h) (RepAll.mono e t)
end
theorem RepAll.length : ∀ {ds : List D} {vs : List V}, RepAll K β F ds vs → ds.length = vs.length
  | _, _, .nil => rfl
  | _, _, .cons _ t => congrArg (· + 1) (RepAll.length t)
theorem RepAll.get : ∀ {ds : List D} {vs : List V} {i : Nat} {d : D}, RepAll K β F ds vs → ds[i]? = some d → ∃ v, vs[i]? = some v ∧ Rep K β F d v
  | _, _, _, _, .nil, e => by simp at e
  | _, _, 0, _, .cons h _, e => by simp at e; subst e; exact ⟨_, rfl, h⟩
  | _, _, i + 1, d, .cons _ t, e => by
    obtain ⟨v, h1, h2⟩ := RepAll.get (i := i) (d := d) t (by simpa using e)
    exact ⟨v, by simpa using h1, h2⟩
theorem RepAll.get' : ∀ {ds : List D} {vs : List V} {i : Nat} {v : V}, RepAll K β F ds vs → vs[i]? = some v → ∃ d, ds[i]? = some d ∧ Rep K β F d v
  | _, _, _, _, .nil, e => by simp at e
  | _, _, 0, _, .cons h _, e => by simp at e; subst e; exact ⟨_, rfl, h⟩
  | _, _, i + 1, v, .cons _ t, e => by
    obtain ⟨d, h1, h2⟩ := RepAll.get' (i := i) (v := v) t (by simpa using e)
    exact ⟨d, by simpa using h1, h2⟩
theorem RepAll.append : ∀ {ds es : List D} {vs ws : List V}, RepAll K β F ds vs → RepAll K β F es ws → RepAll K β F (ds ++ es) (vs ++ ws)
  | _, _, _, _, .nil, s => s
  | _, _, _, _, .cons r t, s => .cons r (RepAll.append t s)
theorem RepAll.take : ∀ {ds : List D} {vs : List V} (n : Nat), RepAll K β F ds vs → RepAll K β F (ds.take n) (vs.take n)
  | _, _, 0, _ => .nil
  | _, _, _ + 1, .nil => .nil
  | _, _, n + 1, .cons r t => .cons r (RepAll.take n t)
theorem RepAll.drop : ∀ {ds : List D} {vs : List V} (n : Nat), RepAll K β F ds vs → RepAll K β F (ds.drop n) (vs.drop n)
  | _, _, 0, r => r
  | _, _, _ + 1, .nil => .nil
  | _, _, n + 1, .cons _ t => RepAll.drop n t
theorem RepAll.set {d : D} {v : V} (r : Rep K β F d v) : ∀ {ds : List D} {vs : List V} (i : Nat), RepAll K β F ds vs → RepAll K β F (ds.set i d) (vs.set i v)
  | _, _, _, .nil => .nil
  | _, _, 0, .cons _ t => .cons r t
  | _, _, i + 1, .cons q t => .cons q (RepAll.set r i t)
theorem RepAll.eraseIdx : ∀ {ds : List D} {vs : List V} (i : Nat), RepAll K β F ds vs → RepAll K β F (ds.eraseIdx i) (vs.eraseIdx i)
  | _, _, _, .nil => .nil
  | _, _, 0, .cons _ t => t
  | _, _, i + 1, .cons q t => .cons q (RepAll.eraseIdx i t)
theorem RepAll.mem : ∀ {ds : List D} {vs : List V} {v : V}, RepAll K β F ds vs → v ∈ vs → ∃ d ∈ ds, Rep K β F d v
  | _, _, _, .nil, h => by cases h
  | _, _, v, .cons r t, h => by
    rcases List.mem_cons.mp h with rfl | h
    · exact ⟨_, List.mem_cons_self, r⟩
    · obtain ⟨d, hd, q⟩ := RepAll.mem t h
      exact ⟨d, List.mem_cons_of_mem _ hd, q⟩
theorem RepAll.ints : ∀ {ns : List Int} {vs : List V}, RepAll K β F (ns.map D.int) vs → vs = ns.map V.int
  | [], _, .nil => rfl
  | n :: ns, _, .cons h t => by
    cases h
    rw [RepAll.ints t]
    rfl
theorem RepAll.ofInts : ∀ (ns : List Int), RepAll K β F (ns.map D.int) (ns.map V.int)
  | [] => .nil
  | n :: ns => .cons (.int n) (RepAll.ofInts ns)
theorem RepAll.bls : ∀ {bs : List Bool} {vs : List V}, RepAll K β F (bs.map D.bl) vs → vs = bs.map V.bl
  | [], _, .nil => rfl
  | n :: ns, _, .cons h t => by
    cases h
    rw [RepAll.bls t]
    rfl
end

/-- what an own thing holds, on the heap -/
def CtOk (K : PySem.W.Frag) (β : Option Addr) (F : Hp) : Ct → HO → Prop
  | .l ds, ho => ∃ vs, ho = .lst vs ∧ vs.length ≤ sizeLine ∧ RepAll K β F ds vs
  | .m kvs, ho => ∃ (ks : List Key) (ds : List D) (vs : List V), ho = .dK (ks.zip vs) ∧ kvs = ks.zip ds ∧ ks.length = vs.length ∧ ks.length ≤ sizeLine ∧ RepAll K β F ds vs
theorem CtOk.mono {K : PySem.W.Frag} {β : Option Addr} {F F' : Hp} (e : Same F F') : ∀ {c : Ct} {ho : HO}, CtOk K β F c ho → CtOk K β F' c ho
  | .l ds, ho, h => by
    obtain ⟨vs, h1, h2, h3⟩ := h
    exact ⟨vs, h1, h2, h3.mono e⟩
  | .m kvs, ho, h => by
    obtain ⟨ks, ds, vs, h1, h2, h3, h4, h5⟩ := h
    exact ⟨ks, ds, vs, h1, h2, h3, h4, h5.mono e⟩
/-- an own thing as data -/
def Ct.d : Ct → D
  | .l ds => .lst ds
  | .m kvs => .dct kvs

/-! ### the state -/
/-- a def's entry: the bag's place, the heap at the entry, the part of it that stands still -/
structure C0 where
  β : Option Addr
  H0 : Hp
  F0 : Hp
structure OwnAt (K : PySem.W.Frag) (c : C0) (H F : Hp) (p : Addr) (ct : Ct) : Prop where
  at_ : ∃ ho, H p = some ho ∧ CtOk K c.β F ct ho
  new : c.H0 p = none
  fr : F p = none
/-- a table of code objects; those in it are frozen -/
def TabC (H F : Hp) (P : Addr) (q : Str) : Prop := ∃ ps : Array Value, H P = some (.tbl ps) ∧ TriplesOk ps.toList ∧ ∀ (pos : Pos) (cv : Value), codeAmong pos ps.toList = some cv → ∃ c, cv = .ref c ∧ F c = some (LamX.CodeO c q)
theorem TabC.mono {H F F' : Hp} {P : Addr} {q : Str} (t : TabC H F P q) (e : Same F F') : TabC H F' P q := by
  obtain ⟨ps, h1, h2, h3⟩ := t
  exact ⟨ps, h1, h2, fun pos cv hc => let ⟨c, a, b⟩ := h3 pos cv hc; ⟨c, a, e _ _ b⟩⟩
theorem TabC.ext {H H' F : Hp} {P : Addr} {q : Str} (t : TabC H F P q) (e : Same H H') : TabC H' F P q := by
  obtain ⟨ps, h1, h2, h3⟩ := t
  exact ⟨ps, e _ _ h1, h2, h3⟩
theorem TabC.s {H F : Hp} {P : Addr} {q : Str} (t : TabC H F P q) (sub : Same F H) : LamX.TabS H P q := by
  obtain ⟨ps, h1, h2, h3⟩ := t
  exact ⟨ps, h1, h2, fun pos cv hc => let ⟨c, a, b⟩ := h3 pos cv hc; ⟨c, a, sub _ _ b⟩⟩
/-- the tables stand, apart from what is frozen -/
def TabF (K : KT) (H F : Hp) : Prop := ∀ p ∈ K.T, TabC H F p.1 p.2 ∧ F p.1 = none
theorem TabF.ne {K : KT} {H F : Hp} (t : TabF K H F) {p : Addr × Str} (hp : p ∈ K.T) {b : Addr} {o : HO} (hb : H b = some o) (no : ∀ ps, o ≠ .tbl ps) : p.1 ≠ b := fun z => by
  obtain ⟨⟨ps, h, _⟩, _⟩ := t p hp
  rw [z, hb] at h
  exact no ps (Option.some.inj h)
theorem TabF.neN {K : KT} {H F : Hp} (t : TabF K H F) {p : Addr × Str} (hp : p ∈ K.T) {b : Addr} (hb : H b = none) : p.1 ≠ b := fun z => by
  obtain ⟨⟨ps, h, _⟩, _⟩ := t p hp
  rw [z, hb] at h
  cases h
theorem TabF.but {K : KT} {H H' F : Hp} (t : TabF K H F) {b : Addr} {o o' : HO} (hb : H b = some o) (no : ∀ ps, o ≠ .tbl ps) (nc : ∀ c q', o ≠ LamX.CodeO c q') (e : H' = upd H b o') : TabF K H' F := fun p hp => by
  refine ⟨?_, (t p hp).2⟩
  obtain ⟨ps, h1, h2, h3⟩ := (t p hp).1
  exact ⟨ps, by rw [e, upd_ne (t.ne hp hb no)]; exact h1, h2, h3⟩
structure Rel (K : KT) (c : C0) (ρ : Rho) (B : Bag) (σ : L2.St) (H F : Hp) : Prop where
  len : ρ.length = σ.length
  fr : ∀ b o, some b ≠ c.β → (∀ ps, o ≠ .tbl ps) → c.H0 b = some o → H b = some o
  st : ∀ b, c.H0 b ≠ none → H b ≠ none
  tab : TabF K H F
  gr : Same c.F0 F
  dj : ∀ b, c.H0 b ≠ none → c.F0 b = none → F b = none
  sub : Same F H
  bag : ∀ a, c.β = some a → H a = some (bagH B) ∧ c.H0 a ≠ none ∧ c.F0 a = none
  dat : ∀ (i : Nat) (x : D), ρ[i]? = some (.d x) → ∃ v, σ[i]? = some (some v) ∧ Rep K c.β F x v
  own : ∀ (i : Nat) (ct : Ct), ρ[i]? = some (.o ct) → ∃ p, σ[i]? = some (some (.ref p)) ∧ OwnAt K c H F p ct
  sep : ∀ (i j : Nat) (ct ct' : Ct) (p : Addr), ρ[i]? = some (.o ct) → ρ[j]? = some (.o ct') → σ[i]? = some (some (.ref p)) → σ[j]? = some (some (.ref p)) → i = j

/-- a result: data, or a new own thing -/
inductive Res where
  | d (x : D) | o (c : Ct)
def ResOk (K : PySem.W.Frag) (c : C0) (H F : Hp) : Res → V → Prop
  | .d x, v => Rep K c.β F x v
  | .o ct, v => ∃ p, v = .ref p ∧ OwnAt K c H F p ct

section
variable {K : KT} {c : C0} {ρ : Rho} {B B' : Bag} {σ : L2.St} {H H' F F' : Hp}
theorem Rel.F_bag (R : Rel K c ρ B σ H F) {a : Addr} (h : c.β = some a) : F a = none := R.dj a (R.bag a h).2.1 (R.bag a h).2.2
/-- the heap has grown; what stood is as it was -/
theorem Rel.grow (R : Rel K c ρ B σ H F) (s : Same H H') (e : Same F F') (sub : Same F' H') (dj : ∀ b, H b ≠ none → F b = none → F' b = none) : Rel K c ρ B σ H' F' where
  len := R.len
  fr := fun b o hb ho h => s b o (R.fr b o hb ho h)
  st := fun b h z => by
    cases q : H b with
    | none => exact R.st b h q
    | some o => rw [s b o q] at z; cases z
  tab := fun p hp => ⟨((R.tab p hp).1.ext s).mono e, dj p.1 (by obtain ⟨⟨ps, h, _⟩, _⟩ := R.tab p hp; rw [h]; exact fun z => nomatch z) (R.tab p hp).2⟩
  gr := R.gr.trans e
  dj := fun b h1 h2 => dj b (R.st b h1) (R.dj b h1 h2)
  sub := sub
  bag := fun a h => ⟨s _ _ (R.bag a h).1, (R.bag a h).2⟩
  dat := fun i x h => let ⟨v, h1, h2⟩ := R.dat i x h; ⟨v, h1, h2.mono e⟩
  own := fun i ct h => by
    obtain ⟨p, h1, ⟨ho, h2, h3⟩, h4, h5⟩ := R.own i ct h
    exact ⟨p, h1, ⟨ho, s _ _ h2, h3.mono e⟩, h4, dj p (by rw [h2]; exact fun z => nomatch z) h5⟩
  sep := R.sep
/-- a new frozen object -/
theorem Rel.new (R : Rel K c ρ B σ H F) {p : Addr} {o : HO} (np : H p = none) : Rel K c ρ B σ (upd H p o) (upd F p o) ∧ Same F (upd F p o) := by
  have nF : F p = none := by
    cases q : F p with
    | none => rfl
    | some u => rw [R.sub p u q] at np; cases np
  have e : Same F (upd F p o) := fun b u h => by rw [upd_ne (ne_of_none h nF)]; exact h
  refine ⟨R.grow (fun b u h => by rw [upd_ne (ne_of_none h np)]; exact h) e (fun b u h => ?_) (fun b h1 h2 => ?_), e⟩
  · by_cases hb : b = p
    · subst hb; rw [upd_same] at h ⊢; exact h
    · rw [upd_ne hb] at h ⊢; exact R.sub b u h
  · by_cases hb : b = p
    · subst hb; exact absurd np h1
    · rw [upd_ne hb]; exact h2
/-- a new object that is not frozen -/
theorem Rel.newO (R : Rel K c ρ B σ H F) {p : Addr} {o : HO} (np : H p = none) : Rel K c ρ B σ (upd H p o) F :=
  R.grow (fun b u h => by rw [upd_ne (ne_of_none h np)]; exact h) (Same.refl F) (fun b u h => by rw [upd_ne (ne_of_none (R.sub b u h) np)]; exact R.sub b u h) fun b h1 h2 => h2
theorem Rel.H0_none (R : Rel K c ρ B σ H F) {p : Addr} (np : H p = none) : c.H0 p = none := by
  cases q : c.H0 p with
  | none => rfl
  | some o => exact absurd np (R.st p (by rw [q]; exact fun z => nomatch z))
theorem Rel.F_none (R : Rel K c ρ B σ H F) {p : Addr} (np : H p = none) : F p = none := by
  cases q : F p with
  | none => rfl
  | some u => rw [R.sub p u q] at np; cases np
theorem Rel.H_none (R : Rel K c ρ B σ H F) {p : Addr} (h : c.H0 p = none) : some p ≠ c.β := fun z => (R.bag p z.symm).2.1 h
/-- an own thing that no slot holds becomes frozen -/
theorem Rel.freeze (R : Rel K c ρ B σ H F) {p : Addr} {ho : HO} (hp : H p = some ho) (nt : ∀ ps, ho ≠ .tbl ps) (n0 : c.H0 p = none) (nF : F p = none) (ns : ∀ (i : Nat) (ct : Ct), ρ[i]? = some (.o ct) → σ[i]? ≠ some (some (.ref p))) : Rel K c ρ B σ H (upd F p ho) ∧ Same F (upd F p ho) := by
  have e : Same F (upd F p ho) := fun b u h => by rw [upd_ne (ne_of_none h nF)]; exact h
  refine ⟨⟨R.len, R.fr, R.st, fun q hq => ⟨(R.tab q hq).1.mono e, by rw [upd_ne (R.tab.ne hq hp nt)]; exact (R.tab q hq).2⟩, R.gr.trans e, fun b h1 h2 => ?_, fun b u h => ?_, R.bag, fun i x h => let ⟨v, h1, h2⟩ := R.dat i x h; ⟨v, h1, h2.mono e⟩, fun i ct h => ?_, R.sep⟩, e⟩
  · by_cases hb : b = p
    · subst hb; exact absurd n0 h1
    · rw [upd_ne hb]; exact R.dj b h1 h2
  · by_cases hb : b = p
    · subst hb; rw [upd_same] at h; rw [← h]; exact hp
    · rw [upd_ne hb] at h; exact R.sub b u h
  · obtain ⟨q, h1, ⟨ho', h2, h3⟩, h4, h5⟩ := R.own i ct h
    have hq : q ≠ p := fun z => ns i ct h (by rw [h1, z])
    exact ⟨q, h1, ⟨ho', h2, h3.mono e⟩, h4, by rw [upd_ne hq]; exact h5⟩
theorem CtOk.nt {ct : Ct} {ho : HO} {K : PySem.W.Frag} {β : Option Addr} (h : CtOk K β F ct ho) : (∀ ps, ho ≠ .tbl ps) ∧ ∀ c q, ho ≠ LamX.CodeO c q := by
  cases ct with
  | l ds =>
    obtain ⟨vs, rfl, _⟩ := h
    exact ⟨fun _ z => (nomatch z), fun _ _ z => by unfold LamX.CodeO at z; cases z⟩
  | m kvs =>
    obtain ⟨ks, ds, vs, rfl, _⟩ := h
    exact ⟨fun _ z => (nomatch z), fun _ _ z => by unfold LamX.CodeO at z; cases z⟩
/-- a list or a dict -/
def HO.pl : HO → Bool
  | .lst _ => true
  | .dK _ => true
  | _ => false
theorem HO.pl_nt {o : HO} (h : HO.pl o = true) : (∀ ps, o ≠ .tbl ps) ∧ ∀ c q, o ≠ LamX.CodeO c q := ⟨fun _ z => (by rw [z] at h; cases h), fun _ _ z => by rw [z] at h; cases h⟩
theorem CtOk.pl {ct : Ct} {ho : HO} {K : PySem.W.Frag} {β : Option Addr} (h : CtOk K β F ct ho) : HO.pl ho = true := by
  cases ct with
  | l ds =>
    obtain ⟨vs, rfl, _⟩ := h
    rfl
  | m kvs =>
    obtain ⟨ks, ds, vs, rfl, _⟩ := h
    rfl
theorem bag_nt {B : Bag} : (∀ ps, bagH B ≠ .tbl ps) ∧ ∀ c q, bagH B ≠ LamX.CodeO c q := ⟨fun _ z => (nomatch z), fun _ _ z => by unfold LamX.CodeO bagH at z; cases z⟩
theorem CtOk.rep {ct : Ct} {ho : HO} {p : Addr} {β : Option Addr} (h : CtOk K β F ct ho) (hp : F p = some ho) : Rep K β F ct.d (.ref p) := by
  cases ct with
  | l ds =>
    obtain ⟨vs, rfl, h1, h2⟩ := h
    exact .lst hp h1 h2
  | m kvs =>
    obtain ⟨ks, ds, vs, rfl, h1, h2, h3, h4⟩ := h
    exact .dct hp (by rw [List.length_zip]; omega) h1 rfl h2 h4
end

/-! ### the judgements -/
structure Top where
  P : Program
  w : World
  K : KT
  mg : Str → Option Value
  base : Heap
structure G where
  T : Top
  N : List Str
  sc : Scope
  k : Nat
  cf : Str → Bool
  cl : Option (List (Str × Addr) × Str × Addr) := none
structure At (g : G) (X : Cx) : Prop where
  hP : X.prog = g.T.P
  hw : X.w = g.T.w
  hK : X.K = g.T.K.fr
  hm : X.mg = g.T.mg
  hb : X.base = g.T.base
  hN : X.N = g.N
  hs : X.env.scope = g.sc
  nd : g.N.Nodup
  calm : X.calm = true
  room : Room g.k X.A
  cell : ∀ x, g.cf x = true → X.fn x = true
  own : PassesOwn (model X.prog X.w) X.A X.env X.xe
  cls : ∀ q, g.cl = some q → X.env.cells = q.1 ∧ X.env.qual = q.2.1 ∧ X.env.code = .ref q.2.2

/-- a new own thing is none of those that slots hold -/
def Apart (ρ : Rho) (σ : L2.St) (r : Res) (v : V) : Prop := ∀ ct', r = .o ct' → ∀ (i : Nat) (ct : Ct) (p : Addr), ρ[i]? = some (.o ct) → σ[i]? = some (some (.ref p)) → v ≠ .ref p
/-- an expression comes to r -/
def tEv (K : KT) (ρ : Rho) (B : Bag) (r : Res) (B' : Bag) : TE := fun σ H Q => ∃ c F, Rel K c ρ B σ H F ∧ ∀ v H' F', Rel K c ρ B' σ H' F' → Same F F' → ResOk K c H' F' r v → Apart ρ σ r v → Q v H'
structure EvR (g : G) (e : Expr) (ρ : Rho) (B : Bag) (r : Res) (B' : Bag) : Prop where
  h : ∀ X, At g X → PE X e (tEv g.T.K ρ B r B')
abbrev Ev (g : G) (e : Expr) (ρ : Rho) (B : Bag) (x : D) (B' : Bag) : Prop := EvR g e ρ B (.d x) B'
def tEvs (K : KT) (ρ : Rho) (B : Bag) (ds : List D) (B' : Bag) : TA := fun σ H Q => ∃ c F, Rel K c ρ B σ H F ∧ ∀ vs H' F', Rel K c ρ B' σ H' F' → Same F F' → RepAll K c.β F' ds vs → Q vs H'
structure Evs (g : G) (es : List Expr) (ρ : Rho) (B : Bag) (ds : List D) (B' : Bag) : Prop where
  h : ∀ X, At g X → PA X es (tEvs g.T.K ρ B ds B')
def tTs (K : KT) (ρ : Rho) (B : Bag) (b : Bool) (B' : Bag) : TT := fun σ H Q => ∃ c F, Rel K c ρ B σ H F ∧ ∀ H' F', Rel K c ρ B' σ H' F' → Same F F' → Q b H'
structure Ts (g : G) (e : Expr) (ρ : Rho) (B : Bag) (b : Bool) (B' : Bag) : Prop where
  h : ∀ X, At g X → PT X e (tTs g.T.K ρ B b B')

/-- what is wanted behind a statement -/
structure En where
  nx : Rho → Bag → Prop
  rt : Res → Bag → Prop
  bk : Rho → Bag → Prop := fun _ _ => False
  ct : Rho → Bag → Prop := fun _ _ => False
def GoesTo (K : KT) (c : C0) (F : Hp) (P : Rho → Bag → Prop) (Q : L2.St → Hp → Prop) : Prop := ∀ ρ' B' σ' H' F', Rel K c ρ' B' σ' H' F' → Same F F' → P ρ' B' → Q σ' H'
def RetsTo (K : KT) (c : C0) (F : Hp) (P : Res → Bag → Prop) (Q : VK) : Prop := ∀ ρ' B' σ' H' F' r v, Rel K c ρ' B' σ' H' F' → Same F F' → ResOk K c H' F' r v → P r B' → Q v H'
def tEx (K : KT) (ρ : Rho) (B : Bag) (E : En) : TS := fun D σ H => ∃ c F, Rel K c ρ B σ H F ∧ GoesTo K c F E.nx D.nx ∧ RetsTo K c F E.rt D.rt ∧ GoesTo K c F E.bk D.bk ∧ GoesTo K c F E.ct D.ct
structure Ex (g : G) (st : Stmt) (ρ : Rho) (B : Bag) (E : En) : Prop where
  h : ∀ X, At g X → PS X st (tEx g.T.K ρ B E)
structure Exs (g : G) (sts : List Stmt) (ρ : Rho) (B : Bag) (E : En) : Prop where
  h : ∀ X, At g X → PSs X sts (tEx g.T.K ρ B E)

/-! ### what a reading may be weakened to -/
theorem PE.imp {X : Cx} {e : Expr} {t t' : TE} (h : PE X e t) (w : ∀ σ H Q, t' σ H Q → t σ H Q) : PE X e t' := ⟨fun pins s σ H Q I q => h.run pins s σ H Q I (w σ H Q q)⟩
theorem PT.imp {X : Cx} {e : Expr} {t t' : TT} (h : PT X e t) (w : ∀ σ H Q, t' σ H Q → t σ H Q) : PT X e t' := ⟨fun pins s σ H Q I q => h.run pins s σ H Q I (w σ H Q q)⟩
theorem PA.imp {X : Cx} {e : List Expr} {t t' : TA} (h : PA X e t) (w : ∀ σ H Q, t' σ H Q → t σ H Q) : PA X e t' := ⟨fun pos pins s σ H Q I q => h.run pos pins s σ H Q I (w σ H Q q)⟩
theorem PS.imp {X : Cx} {st : Stmt} {t t' : TS} (h : PS X st t) (w : ∀ D σ H, t' D σ H → t D σ H) : PS X st t' := ⟨fun pins s σ H D I q => h.run pins s σ H D I (w D σ H q)⟩
theorem PSs.imp {X : Cx} {st : List Stmt} {t t' : TS} (h : PSs X st t) (w : ∀ D σ H, t' D σ H → t D σ H) : PSs X st t' := ⟨fun pins s σ H D I q => h.run pins s σ H D I (w D σ H q)⟩
end PD
namespace PD
open PySem PySem.Spec PyProof.Rows L2

section
variable {g : G} {ρ : Rho} {B B1 B2 B3 : Bag} {a b e : Expr} {pos : Pos} {x y z d : D}

theorem apart_d {ρ : Rho} {σ : L2.St} {x : D} {v : V} : Apart ρ σ (.d x) v := fun _ e => nomatch e
theorem ResOk.dat {K : PySem.W.Frag} {c : C0} {H F : Hp} {x : D} {v : V} (h : Rep K c.β F x v) : ResOk K c H F (.d x) v := h

/-- two expressions in a row -/
theorem two {K : KT} {c : C0} {σ : L2.St} {H F : Hp} {k : V → V → Hp → Prop} (R : Rel K c ρ B σ H F) (q : ∀ v w H2 F2, Rel K c ρ B2 σ H2 F2 → Same F F2 → Rep K c.β F2 x v → Rep K c.β F2 y w → k v w H2) :
    tEv K ρ B (.d x) B1 σ H fun v H1 => tEv K ρ B1 (.d y) B2 σ H1 fun w H2 => k v w H2 :=
  ⟨c, F, R, fun v H1 F1 R1 e1 h1 _ => ⟨c, F1, R1, fun w H2 F2 R2 e2 h2 _ => q v w H2 F2 R2 (e1.trans e2) (Rep.mono e2 h1) h2⟩⟩

/-! ### names and constants -/
theorem ev_var {i : Nat} {n : Str} (hN : g.N[i]? = some n) (hv : Vis g.sc n) (hr : ρ[i]? = some (.d d)) (hd : (n == ("__debug__" : Str)) = false := by decide) (hcd : (n == ("__classdict__" : Str)) = false := by decide) : Ev g (.Name n pos) ρ B d B :=
  ⟨fun X hX => PE.imp (pe_var (X := X) (i := i) (by rw [hX.hN]; exact hN) (by rw [hX.hs]; exact hv) hd hcd) fun σ H Q ⟨c, F, R, q⟩ =>
    let ⟨v, h1, h2⟩ := R.dat i d hr
    ⟨v, h1, q v H F R (Same.refl F) h2 apart_d⟩⟩
theorem ev_c {K : KT} {σ : L2.St} {H : Hp} {Q : VK} {v : V} (h : tEv K ρ B (.d x) B σ H Q) (r : ∀ β F, Rep K β F x v) : Q v H :=
  let ⟨c, F, R, q⟩ := h
  q v H F R (Same.refl F) (r c.β F) apart_d
theorem ev_int {i j} : Ev g (.Constant (.int i) j pos) ρ B (.int i) B := ⟨fun X hX => PE.imp pe_int fun σ H Q h => ev_c h fun _ _ => .int i⟩
theorem ev_bl {i j} : Ev g (.Constant (.bool i) j pos) ρ B (.bl i) B := ⟨fun X hX => PE.imp pe_bl fun σ H Q h => ev_c h fun _ _ => .bl i⟩
theorem ev_non {j} : Ev g (.Constant .none j pos) ρ B .non B := ⟨fun X hX => PE.imp pe_non fun σ H Q h => ev_c h fun _ _ => .non⟩
theorem ev_str {s j} : Ev g (.Constant (.str s) j pos) ρ B (.str s) B := ⟨fun X hX => PE.imp pe_str fun σ H Q h => ev_c h fun _ _ => .str s⟩
/-- a built-in's name as a value -/
theorem ev_bltn {n : Str} {v : V} {u : Value} (hg : g.sc.names.lookup n = some .globalImplicit) (hm : g.T.mg n = none) (hv : bootBuiltins n = some u) (r : RelV v u) (hn : n ≠ "__name__" := by decide) (hd : (n == ("__debug__" : Str)) = false := by decide) : Ev g (.Name n pos) ρ B (.val v) B :=
  ⟨fun X hX => PE.imp (pe_bltn (X := X) (show X.env.scope.names.lookup n = _ by rw [hX.hs]; exact hg) (by rw [hX.hm]; exact hm) hv r hn hd) fun σ H Q h => ev_c h fun _ _ => .val v⟩
/-- a module's constant -/
theorem ev_glob {n : Str} {u : Value} (hg : g.sc.names.lookup n = some .globalImplicit) (hm : g.T.mg n = some u) {v : V} (r : RelV v u) (hx : ∀ β F, Rep g.T.K β F x v) (hd : (n == ("__debug__" : Str)) = false := by decide) : Ev g (.Name n pos) ρ B x B :=
  ⟨fun X hX => PE.imp (pe_glob (X := X) (show X.env.scope.names.lookup n = _ by rw [hX.hs]; exact hg) (by rw [hX.hm]; exact hm) r hd) fun σ H Q h => ev_c h hx⟩
theorem ev_globI {n : Str} {i : Int} {t : Tok} (hg : g.sc.names.lookup n = some .globalImplicit) (hm : g.T.mg n = some (.int i t)) (hd : (n == ("__debug__" : Str)) = false := by decide) : Ev g (.Name n pos) ρ B (.int i) B :=
  ev_glob hg hm (v := .int i) ⟨t, rfl⟩ (fun _ _ => .int i) hd
theorem ev_str' {s j} : Ev g (.Constant (.str s) j pos) ρ B (.str s) B := ev_str

/-! ### operators -/
/-- f on data -/
def BinD (g : G) (f : Value → Value → Sem Value) (x y : D) (z : Res) : Prop :=
  ∀ X, At g X → ∃ r : R2, OpR X f r ∧ ∀ (c : C0) (ρ : Rho) (B : Bag) (σ : L2.St) (H F : Hp) (v w : V) (Q : VK), Rel g.T.K c ρ B σ H F → Rep g.T.K c.β F x v → Rep g.T.K c.β F y w →
    (∀ u H' F', Rel g.T.K c ρ B σ H' F' → Same F F' → ResOk g.T.K c H' F' z u → Apart ρ σ z u → Q u H') → r v w H Q
theorem binR {z : Res} {op : Operator} (ho : BinD g (binaryOp op) x y z) (ha : Ev g a ρ B x B1) (hb : Ev g b ρ B1 y B2) : EvR g (.BinOp a op b pos) ρ B z B2 :=
  ⟨fun X hX =>
    let ⟨r, o, h⟩ := ho X hX
    PE.imp (pe_op o (ha.h X hX) (hb.h X hX)) fun σ H Q ⟨c, F, R, q⟩ => two R fun v w H2 F2 R2 e2 h1 h2 => h c ρ B2 σ H2 F2 v w Q R2 h1 h2 fun u H' F' R' e' hu ap => q u H' F' R' (e2.trans e') hu ap⟩
theorem ev_bin {op : Operator} (ho : BinD g (binaryOp op) x y (.d z)) (ha : Ev g a ρ B x B1) (hb : Ev g b ρ B1 y B2) : Ev g (.BinOp a op b pos) ρ B z B2 := binR ho ha hb
/-- a comparison as a value, as a test -/
theorem ev_cmp {op : CmpOp} (ho : BinD g (compareOp op) x y (.d z)) (ha : Ev g a ρ B x B1) (hb : Ev g b ρ B1 y B2) (hm : behindInMarks op b = false := by rfl) : Ev g (.Compare a [op] [b] pos) ρ B z B2 :=
  ⟨fun X hX =>
    let ⟨r, o, h⟩ := ho X hX
    PE.imp (pe_cmpR o (ha.h X hX) (hb.h X hX) hm) fun σ H Q ⟨c, F, R, q⟩ => two R fun v w H2 F2 R2 e2 h1 h2 => h c ρ B2 σ H2 F2 v w Q R2 h1 h2 fun u H' F' R' e' hu ap => q u H' F' R' (e2.trans e') hu ap⟩
theorem ts_cmp {op : CmpOp} {k : Bool} (ho : BinD g (compareOp op) x y (.d (.bl k))) (ha : Ev g a ρ B x B1) (hb : Ev g b ρ B1 y B2) (hm : behindInMarks op b = false := by rfl) : Ts g (.Compare a [op] [b] pos) ρ B k B2 :=
  ⟨fun X hX =>
    let ⟨r, o, h⟩ := ho X hX
    PT.imp (pt_cmpR o (ha.h X hX) (hb.h X hX) hm) fun σ H Q ⟨c, F, R, q⟩ => two R fun v w H2 F2 R2 e2 h1 h2 => h c ρ B2 σ H2 F2 v w _ R2 h1 h2 fun u H' F' R' e' hu ap => by
      cases hu
      exact ⟨k, rfl, q H' F' R' (e2.trans e')⟩⟩
/-- a < b <= c -/
theorem ev_chain {e3 : Expr} {w : D} {op op' : CmpOp} {k k' : Bool} (ho : BinD g (compareOp op) x y (.d (.bl k))) (ho' : BinD g (compareOp op') y w (.d (.bl k'))) (ha : Ev g a ρ B x B1) (hb : Ev g b ρ B1 y B2) (hc : k = true → Ev g e3 ρ B2 w B3)
    (hk : k = false → B2 = B3) (hm : lastMarks [op, op'] [b, e3] = false := by with_unfolding_all rfl) : Ev g (.Compare a [op, op'] [b, e3] pos) ρ B (.bl (k && k')) B3 := by
  refine ⟨fun X hX => ?_⟩
  obtain ⟨r, o, h⟩ := ho X hX
  obtain ⟨r', o', h'⟩ := ho' X hX
  cases k with
  | true =>
    refine PE.imp (pe_chain o o' (ha.h X hX) (hb.h X hX) ((hc rfl).h X hX) hm) fun σ H Q ⟨c, F, R, q⟩ => two R fun v w H2 F2 R2 e2 h1 h2 => h c ρ B2 σ H2 F2 v w _ R2 h1 h2 fun u H' F' R' e' hu ap => ?_
    cases hu
    refine ⟨true, rfl, iteT ⟨c, F', R', fun w3 H3 F3 R3 e3 h3 _ => ?_⟩⟩
    exact h' c ρ B3 σ H3 F3 w w3 Q R3 (Rep.mono (e'.trans e3) h2) h3 fun u H' F' R' e4 hu ap => q u H' F' R' (((e2.trans e').trans e3).trans e4) (by rw [Bool.true_and]; exact hu) apart_d
  | false =>
    refine PE.imp (pe_chain o o' (ha.h X hX) (hb.h X hX) (tc := fun _ _ _ => False) ⟨fun _ _ _ _ _ _ z => z.elim⟩ hm) fun σ H Q ⟨c, F, R, q⟩ => two R fun v w H2 F2 R2 e2 h1 h2 => h c ρ B2 σ H2 F2 v w _ R2 h1 h2 fun u H' F' R' e' hu ap => ?_
    cases hu
    refine ⟨false, rfl, iteF ?_⟩
    rw [← hk rfl] at q
    exact q _ H' F' R' (e2.trans e') (.bl _) apart_d
/-- an expression whose value is a bool, as a test -/
theorem ts_val {k : Bool} (h : Ev g e ρ B (.bl k) B1) (he : ∀ (env : Env) whole, isTrue e env whole = (do let v ← whole; standAt e.pos; holding [v] (truthy v)) := by intro _ _; rfl) : Ts g e ρ B k B1 :=
  ⟨fun X hX => PT.imp (pt_val (h.h X hX) (he X.env)) fun σ H Q ⟨c, F, R, q⟩ => ⟨c, F, R, fun v H' F' R' e' hu _ => by
    cases hu
    exact ⟨k, rfl, q H' F' R' e'⟩⟩⟩
theorem ts_chain {e3 : Expr} {w : D} {op op' : CmpOp} {k k' : Bool} (ho : BinD g (compareOp op) x y (.d (.bl k))) (ho' : BinD g (compareOp op') y w (.d (.bl k'))) (ha : Ev g a ρ B x B1) (hb : Ev g b ρ B1 y B2) (hc : k = true → Ev g e3 ρ B2 w B3)
    (hk : k = false → B2 = B3) (hm : lastMarks [op, op'] [b, e3] = false := by with_unfolding_all rfl) : Ts g (.Compare a [op, op'] [b, e3] pos) ρ B (k && k') B3 := by
  refine ⟨fun X hX => ?_⟩
  obtain ⟨r, o, h⟩ := ho X hX
  obtain ⟨r', o', h'⟩ := ho' X hX
  cases k with
  | true =>
    refine PT.imp (pt_chain o o' (ha.h X hX) (hb.h X hX) ((hc rfl).h X hX) hm) fun σ H Q ⟨c, F, R, q⟩ => two R fun v w H2 F2 R2 e2 h1 h2 => h c ρ B2 σ H2 F2 v w _ R2 h1 h2 fun u H' F' R' e' hu ap => ?_
    cases hu
    refine ⟨true, rfl, iteT ⟨c, F', R', fun w3 H3 F3 R3 e3 h3 _ => ?_⟩⟩
    exact h' c ρ B3 σ H3 F3 w w3 _ R3 (Rep.mono (e'.trans e3) h2) h3 fun u H' F' R' e4 hu ap => by
      cases hu
      exact ⟨k', rfl, q H' F' R' (((e2.trans e').trans e3).trans e4)⟩
  | false =>
    refine PT.imp (pt_chain o o' (ha.h X hX) (hb.h X hX) (tc := fun _ _ _ => False) ⟨fun _ _ _ _ _ _ z => z.elim⟩ hm) fun σ H Q ⟨c, F, R, q⟩ => two R fun v w H2 F2 R2 e2 h1 h2 => h c ρ B2 σ H2 F2 v w _ R2 h1 h2 fun u H' F' R' e' hu ap => ?_
    cases hu
    refine ⟨false, rfl, iteF ?_⟩
    rw [← hk rfl] at q
    exact ⟨false, rfl, q H' F' R' (e2.trans e')⟩

/-! the operators on ints -/
theorem binD_v {f : Value → Value → Sem Value} {r : ∀ X : Cx, R2} (ho : ∀ X, At g X → OpR X f (r X)) (v w u : V) (hx : ∀ K β F v', Rep K β F x v' → v' = v) (hy : ∀ K β F w', Rep K β F y w' → w' = w) (hz : ∀ K β F, Rep K β F z u)
    (hr : ∀ X H Q, At g X → Q u H → r X v w H Q) : BinD g f x y (.d z) := fun X hX => ⟨r X, ho X hX, fun c ρ B σ H F v' w' Q R h1 h2 q => by
  rw [hx _ _ _ _ h1, hy _ _ _ _ h2]
  exact hr X H Q hX (q u H F R (Same.refl F) (hz _ _ _) apart_d)⟩
theorem inv_int {i : Int} : ∀ K β F v', Rep K β F (.int i) v' → v' = .int i := fun _ _ _ _ h => by cases h; rfl
theorem inv_bl {i : Bool} : ∀ K β F v', Rep K β F (.bl i) v' → v' = .bl i := fun _ _ _ _ h => by cases h; rfl
theorem inv_str {i : Str} : ∀ K β F v', Rep K β F (.str i) v' → v' = .str i := fun _ _ _ _ h => by cases h; rfl
theorem inv_non : ∀ K β F v', Rep K β F .non v' → v' = .non := fun _ _ _ _ h => by cases h; rfl
theorem inv_val {v : V} : ∀ K β F v', Rep K β F (.val v) v' → v' = v := fun _ _ _ _ h => by cases h; rfl
variable {i j : Int}
theorem b_add : BinD g (binaryOp .Add) (.int i) (.int j) (.d (.int (i + j))) := binD_v (fun X _ => op_add (X := X)) _ _ (.int (i + j)) inv_int inv_int (fun _ _ _ => .int _) fun X H Q _ q => ⟨i, j, rfl, rfl, q⟩
theorem b_sub : BinD g (binaryOp .Sub) (.int i) (.int j) (.d (.int (i - j))) := binD_v (fun X _ => op_sub (X := X)) _ _ (.int (i - j)) inv_int inv_int (fun _ _ _ => .int _) fun X H Q _ q => ⟨i, j, rfl, rfl, q⟩
theorem b_mul (h : CMul i j) : BinD g (binaryOp .Mult) (.int i) (.int j) (.d (.int (i * j))) := binD_v (fun X _ => op_mul (X := X)) _ _ (.int (i * j)) inv_int inv_int (fun _ _ _ => .int _) fun X H Q _ q => ⟨i, j, rfl, rfl, h, q⟩
theorem b_fdiv (h : CDiv i j) : BinD g (binaryOp .FloorDiv) (.int i) (.int j) (.d (.int (i / j))) := binD_v (fun X _ => op_fdiv (X := X)) _ _ (.int (i / j)) inv_int inv_int (fun _ _ _ => .int _) fun X H Q _ q => ⟨i, j, rfl, rfl, h, q⟩
theorem b_mod (h : 0 < j) : BinD g (binaryOp .Mod) (.int i) (.int j) (.d (.int (i % j))) := binD_v (fun X _ => op_mod (X := X)) _ _ (.int (i % j)) inv_int inv_int (fun _ _ _ => .int _) fun X H Q _ q => ⟨i, j, rfl, rfl, h, q⟩
theorem b_pow (h : CPow i j) : BinD g (binaryOp .Pow) (.int i) (.int j) (.d (.int (i ^ j.toNat))) := binD_v (fun X _ => op_pow (X := X)) _ _ (.int (i ^ j.toNat)) inv_int inv_int (fun _ _ _ => .int _) fun X H Q _ q => ⟨i, j, rfl, rfl, h, q⟩
theorem c_lt : BinD g (compareOp .Lt) (.int i) (.int j) (.d (.bl (decide (i < j)))) := binD_v (fun X _ => op_lt (X := X)) _ _ (.bl _) inv_int inv_int (fun _ _ _ => .bl _) fun X H Q _ q => ⟨i, j, rfl, rfl, q⟩
theorem c_le : BinD g (compareOp .LtE) (.int i) (.int j) (.d (.bl (decide (i ≤ j)))) := binD_v (fun X _ => op_le (X := X)) _ _ (.bl _) inv_int inv_int (fun _ _ _ => .bl _) fun X H Q _ q => ⟨i, j, rfl, rfl, q⟩
theorem c_gt : BinD g (compareOp .Gt) (.int i) (.int j) (.d (.bl (decide (j < i)))) := binD_v (fun X _ => op_gt (X := X)) _ _ (.bl _) inv_int inv_int (fun _ _ _ => .bl _) fun X H Q _ q => ⟨i, j, rfl, rfl, q⟩
theorem c_ge : BinD g (compareOp .GtE) (.int i) (.int j) (.d (.bl (decide (j ≤ i)))) := binD_v (fun X _ => op_ge (X := X)) _ _ (.bl _) inv_int inv_int (fun _ _ _ => .bl _) fun X H Q _ q => ⟨i, j, rfl, rfl, q⟩
theorem c_eqI : BinD g (compareOp .Eq) (.int i) (.int j) (.d (.bl (decide (i = j)))) := binD_v (fun X _ => op_eq (X := X)) _ _ (.bl _) inv_int inv_int (fun _ _ _ => .bl _) fun X H Q _ q => ⟨rfl, by rw [dec_int, Bool.beq_eq_decide_eq]; exact q⟩
theorem c_neI : BinD g (compareOp .NotEq) (.int i) (.int j) (.d (.bl (!decide (i = j)))) := binD_v (fun X _ => op_ne (X := X)) _ _ (.bl _) inv_int inv_int (fun _ _ _ => .bl _) fun X H Q _ q => ⟨rfl, by rw [dec_int, Bool.beq_eq_decide_eq]; exact q⟩
theorem c_eqS {s t : Str} : BinD g (compareOp .Eq) (.str s) (.str t) (.d (.bl (decide (s = t)))) := binD_v (fun X _ => op_eq (X := X)) _ _ (.bl _) inv_str inv_str (fun _ _ _ => .bl _) fun X H Q _ q => ⟨rfl, by
  rw [show decide (V.str s = V.str t) = decide (s = t) from decide_eq_decide.mpr ⟨fun h => V.str.inj h, fun h => by rw [h]⟩]; exact q⟩
theorem c_neS {s t : Str} : BinD g (compareOp .NotEq) (.str s) (.str t) (.d (.bl (!decide (s = t)))) := binD_v (fun X _ => op_ne (X := X)) _ _ (.bl _) inv_str inv_str (fun _ _ _ => .bl _) fun X H Q _ q => ⟨rfl, by
  rw [show decide (V.str s = V.str t) = decide (s = t) from decide_eq_decide.mpr ⟨fun h => V.str.inj h, fun h => by rw [h]⟩]; exact q⟩
theorem c_eqB {s t : Bool} : BinD g (compareOp .Eq) (.bl s) (.bl t) (.d (.bl (decide (s = t)))) := binD_v (fun X _ => op_eq (X := X)) _ _ (.bl _) inv_bl inv_bl (fun _ _ _ => .bl _) fun X H Q _ q => ⟨rfl, by
  rw [show decide (V.bl s = V.bl t) = decide (s = t) from decide_eq_decide.mpr ⟨fun h => V.bl.inj h, fun h => by rw [h]⟩]; exact q⟩
theorem c_neB {s t : Bool} : BinD g (compareOp .NotEq) (.bl s) (.bl t) (.d (.bl (!decide (s = t)))) := binD_v (fun X _ => op_ne (X := X)) _ _ (.bl _) inv_bl inv_bl (fun _ _ _ => .bl _) fun X H Q _ q => ⟨rfl, by
  rw [show decide (V.bl s = V.bl t) = decide (s = t) from decide_eq_decide.mpr ⟨fun h => V.bl.inj h, fun h => by rw [h]⟩]; exact q⟩
def D.isNon : D → Bool
  | .non => true
  | .val .non => true
  | _ => false
theorem Rep.isNon {K : PySem.W.Frag} {β : Option Addr} {F : Hp} {x : D} {v : V} (h : Rep K β F x v) : decide (v = .non) = x.isNon := by
  cases h with
  | val v => cases v <;> first | rfl | simp [D.isNon]
  | _ => first | rfl | simp [D.isNon]
theorem c_isN : BinD g (compareOp .Is) x .non (.d (.bl x.isNon)) := fun X hX => ⟨_, op_isN (X := X), fun c ρ B σ H F v w Q R h1 h2 q => by
  cases h2
  exact ⟨rfl, q _ H F R (Same.refl F) (by rw [h1.isNon]; exact .bl _) apart_d⟩⟩
theorem c_notN : BinD g (compareOp .IsNot) x .non (.d (.bl (!x.isNon))) := fun X hX => ⟨_, op_notN (X := X), fun c ρ B σ H F v w Q R h1 h2 q => by
  cases h2
  exact ⟨rfl, q _ H F R (Same.refl F) (by rw [h1.isNon]; exact .bl _) apart_d⟩⟩
theorem ev_neg (ha : Ev g a ρ B (.int i) B1) : Ev g (.UnaryOp .USub a pos) ρ B (.int (-i)) B1 :=
  ⟨fun X hX => PE.imp (pe_un un_neg (ha.h X hX)) fun σ H Q ⟨c, F, R, q⟩ => ⟨c, F, R, fun v H1 F1 R1 e1 h1 _ => by
    cases h1
    exact ⟨i, rfl, q _ H1 F1 R1 e1 (.int _) apart_d⟩⟩⟩

/-! ### and, or, not -/
variable {k k' : Bool} {rest : List Expr}
theorem ev_not (ha : Ev g a ρ B (.bl k) B1) : Ev g (.UnaryOp .Not a pos) ρ B (.bl (!k)) B1 :=
  ⟨fun X hX => PE.imp (pe_not (ha.h X hX)) fun σ H Q ⟨c, F, R, q⟩ => ⟨c, F, R, fun v H1 F1 R1 e1 h1 _ => by
    cases h1
    exact ⟨k, rfl, q _ H1 F1 R1 e1 (.bl _) apart_d⟩⟩⟩
theorem ts_not (ha : Ts g a ρ B k B1) : Ts g (.UnaryOp .Not a pos) ρ B (!k) B1 :=
  ⟨fun X hX => PT.imp (pt_not (ha.h X hX)) fun σ H Q ⟨c, F, R, q⟩ => ⟨c, F, R, fun H1 F1 R1 e1 => q H1 F1 R1 e1⟩⟩
theorem ev_one {op} (ha : Ev g a ρ B x B1) : Ev g (.BoolOp op [a] pos) ρ B x B1 := ⟨fun X hX => pe_one (ha.h X hX)⟩
theorem ev_and (ha : Ev g a ρ B (.bl k) B1) (hb : k = true → Ev g (.BoolOp .And (b :: rest) pos) ρ B1 (.bl k') B2) (hk : k = false → B1 = B2) : Ev g (.BoolOp .And (a :: b :: rest) pos) ρ B (.bl (k && k')) B2 := by
  refine ⟨fun X hX => ?_⟩
  cases k with
  | true => exact PE.imp (pe_and (ha.h X hX) ((hb rfl).h X hX)) fun σ H Q ⟨c, F, R, q⟩ => ⟨c, F, R, fun v H1 F1 R1 e1 h1 _ => by
      cases h1
      exact ⟨true, rfl, iteT ⟨c, F1, R1, fun v H2 F2 R2 e2 h2 _ => q v H2 F2 R2 (e1.trans e2) (by rw [Bool.true_and]; exact h2) apart_d⟩⟩⟩
  | false =>
    cases hk rfl
    exact PE.imp (pe_and (ha.h X hX) (tb := fun _ _ _ => False) ⟨fun _ _ _ _ _ _ z => z.elim⟩) fun σ H Q ⟨c, F, R, q⟩ => ⟨c, F, R, fun v H1 F1 R1 e1 h1 _ => by
      cases h1
      exact ⟨false, rfl, iteF (q _ H1 F1 R1 e1 (.bl _) apart_d)⟩⟩
theorem ev_or (ha : Ev g a ρ B (.bl k) B1) (hb : k = false → Ev g (.BoolOp .Or (b :: rest) pos) ρ B1 (.bl k') B2) (hk : k = true → B1 = B2) : Ev g (.BoolOp .Or (a :: b :: rest) pos) ρ B (.bl (k || k')) B2 := by
  refine ⟨fun X hX => ?_⟩
  cases k with
  | false => exact PE.imp (pe_or (ha.h X hX) ((hb rfl).h X hX)) fun σ H Q ⟨c, F, R, q⟩ => ⟨c, F, R, fun v H1 F1 R1 e1 h1 _ => by
      cases h1
      exact ⟨false, rfl, iteF ⟨c, F1, R1, fun v H2 F2 R2 e2 h2 _ => q v H2 F2 R2 (e1.trans e2) (by rw [Bool.false_or]; exact h2) apart_d⟩⟩⟩
  | true =>
    cases hk rfl
    exact PE.imp (pe_or (ha.h X hX) (tb := fun _ _ _ => False) ⟨fun _ _ _ _ _ _ z => z.elim⟩) fun σ H Q ⟨c, F, R, q⟩ => ⟨c, F, R, fun v H1 F1 R1 e1 h1 _ => by
      cases h1
      exact ⟨true, rfl, iteT (q _ H1 F1 R1 e1 (.bl _) apart_d)⟩⟩
/-- a chain of and, or as a test -/
structure Tw (g : G) (e : Expr) (ρ : Rho) (B : Bag) (b : Bool) (B' : Bag) : Prop where
  h : ∀ X, At g X → PW X e (tTs g.T.K ρ B b B')
theorem Tw.ts (h : Tw g e ρ B k B1) : Ts g e ρ B k B1 := ⟨fun X hX => (h.h X hX).pt⟩
theorem tw_and1 (ha : Ts g a ρ B k B1) : Tw g (.BoolOp .And [a] pos) ρ B k B1 := ⟨fun X hX => pw_and1 (ha.h X hX)⟩
theorem tw_or1 (ha : Ts g a ρ B k B1) : Tw g (.BoolOp .Or [a] pos) ρ B k B1 := ⟨fun X hX => pw_or1 (ha.h X hX)⟩
theorem tw_and (ha : Ts g a ρ B k B1) (hb : k = true → Tw g (.BoolOp .And (b :: rest) pos) ρ B1 k' B2) (hk : k = false → B1 = B2) : Tw g (.BoolOp .And (a :: b :: rest) pos) ρ B (k && k') B2 := by
  refine ⟨fun X hX => ?_⟩
  have imp : ∀ {t t' : TT}, PW X (.BoolOp .And (a :: b :: rest) pos) t → (∀ σ H Q, t' σ H Q → t σ H Q) → PW X (.BoolOp .And (a :: b :: rest) pos) t' := fun h w => ⟨fun wh pins s σ H Q I q => h.run wh pins s σ H Q I (w σ H Q q)⟩
  cases k with
  | true => exact imp (pw_and (ha.h X hX) ((hb rfl).h X hX)) fun σ H Q ⟨c, F, R, q⟩ => ⟨c, F, R, fun H1 F1 R1 e1 => iteT ⟨c, F1, R1, fun H2 F2 R2 e2 => by
      have := q H2 F2 R2 (e1.trans e2)
      rw [Bool.true_and] at this
      exact this⟩⟩
  | false =>
    cases hk rfl
    exact imp (pw_and (ha.h X hX) (tB' := fun _ _ _ => False) ⟨fun _ _ _ _ _ _ _ z => z.elim⟩) fun σ H Q ⟨c, F, R, q⟩ => ⟨c, F, R, fun H1 F1 R1 e1 => iteF (q H1 F1 R1 e1)⟩
theorem tw_or (ha : Ts g a ρ B k B1) (hb : k = false → Tw g (.BoolOp .Or (b :: rest) pos) ρ B1 k' B2) (hk : k = true → B1 = B2) : Tw g (.BoolOp .Or (a :: b :: rest) pos) ρ B (k || k') B2 := by
  refine ⟨fun X hX => ?_⟩
  have imp : ∀ {t t' : TT}, PW X (.BoolOp .Or (a :: b :: rest) pos) t → (∀ σ H Q, t' σ H Q → t σ H Q) → PW X (.BoolOp .Or (a :: b :: rest) pos) t' := fun h w => ⟨fun wh pins s σ H Q I q => h.run wh pins s σ H Q I (w σ H Q q)⟩
  cases k with
  | false => exact imp (pw_or (ha.h X hX) ((hb rfl).h X hX)) fun σ H Q ⟨c, F, R, q⟩ => ⟨c, F, R, fun H1 F1 R1 e1 => iteF ⟨c, F1, R1, fun H2 F2 R2 e2 => by
      have := q H2 F2 R2 (e1.trans e2)
      rw [Bool.false_or] at this
      exact this⟩⟩
  | true =>
    cases hk rfl
    exact imp (pw_or (ha.h X hX) (tB' := fun _ _ _ => False) ⟨fun _ _ _ _ _ _ _ z => z.elim⟩) fun σ H Q ⟨c, F, R, q⟩ => ⟨c, F, R, fun H1 F1 R1 e1 => iteT (q H1 F1 R1 e1)⟩
/-- a if t else b -/
theorem ev_if {t : Expr} {z : Res} (ht : Ts g t ρ B k B1) (ha : k = true → EvR g a ρ B1 z B2) (hb : k = false → EvR g b ρ B1 z B2) : EvR g (.IfExp t a b pos) ρ B z B2 := by
  refine ⟨fun X hX => ?_⟩
  cases k with
  | true => exact PE.imp (pe_ifExp (ht.h X hX) ((ha rfl).h X hX) (tb := fun _ _ _ => False) ⟨fun _ _ _ _ _ _ z => z.elim⟩) fun σ H Q ⟨c, F, R, q⟩ => ⟨c, F, R, fun H1 F1 R1 e1 => iteT ⟨c, F1, R1, fun v H2 F2 R2 e2 h2 ap => q v H2 F2 R2 (e1.trans e2) h2 ap⟩⟩
  | false => exact PE.imp (pe_ifExp (ht.h X hX) (ta := fun _ _ _ => False) ⟨fun _ _ _ _ _ _ z => z.elim⟩ ((hb rfl).h X hX)) fun σ H Q ⟨c, F, R, q⟩ => ⟨c, F, R, fun H1 F1 R1 e1 => iteF ⟨c, F1, R1, fun v H2 F2 R2 e2 h2 ap => q v H2 F2 R2 (e1.trans e2) h2 ap⟩⟩

/-! ### argument lists, displays -/
theorem evs_nil : Evs g [] ρ B [] B := ⟨fun X hX => PA.imp pa_nil fun σ H Q ⟨c, F, R, q⟩ => q [] H F R (Same.refl F) .nil⟩
theorem evs_cons {es : List Expr} {ds : List D} (ha : Ev g e ρ B x B1) (hr : Evs g es ρ B1 ds B2) (hs : ∀ env : Env, starEach (e :: es) env = (false, eval e env) :: starEach es env := by intro _; rfl) : Evs g (e :: es) ρ B (x :: ds) B2 :=
  ⟨fun X hX => PA.imp (pa_cons (ha.h X hX) (hr.h X hX) (hs X.env)) fun σ H Q ⟨c, F, R, q⟩ => ⟨c, F, R, fun v H1 F1 R1 e1 h1 _ => ⟨c, F1, R1, fun vs H2 F2 R2 e2 h2 => q (v :: vs) H2 F2 R2 (e1.trans e2) (.cons (Rep.mono e2 h1) h2)⟩⟩⟩
theorem ev_tup {es : List Expr} {ds : List D} {j} (h : Evs g es ρ B ds B1) (hl : ds.length ≤ 1000 := by first | decide | simp) : Ev g (.Tuple es j pos) ρ B (.tup ds) B1 :=
  ⟨fun X hX => PE.imp (pe_tup (h.h X hX)) fun σ H Q ⟨c, F, R, q⟩ => ⟨c, F, R, fun vs H1 F1 R1 e1 h1 => by
    have l1 : vs.length ≤ sizeLine := by rw [← h1.length]; exact Nat.le_of_lt (small1000 hl)
    refine ⟨l1, fun p np => ?_⟩
    obtain ⟨R2, e2⟩ := R1.new (o := .tup vs) np
    exact q _ _ _ R2 (e1.trans e2) (.tup (.inl (.inl upd_same)) l1 (h1.mono e2)) apart_d⟩⟩
theorem OwnAt.new' {K : KT} {c : C0} {σ : L2.St} {H F : Hp} {p : Addr} {ct : Ct} {ho : HO} (R : Rel K c ρ B σ H F) (np : H p = none) (h : CtOk K c.β F ct ho) : OwnAt K c (upd H p ho) F p ct := ⟨⟨ho, upd_same, h⟩, R.H0_none np, R.F_none np⟩
theorem Rel.apart {K : KT} {c : C0} {σ : L2.St} {H F : Hp} {p : Addr} {r : Res} (R : Rel K c ρ B σ H F) (np : H p = none) : Apart ρ σ r (.ref p) := fun _ _ i ct q h1 h2 z => by
  obtain ⟨q', h3, ⟨ho, h4, _⟩, _⟩ := R.own i ct h1
  rw [h2] at h3
  cases h3
  cases z
  rw [np] at h4
  cases h4
theorem evr_lst {es : List Expr} {ds : List D} (h : Evs g es ρ B ds B1) (hl : ds.length ≤ 1000 := by first | decide | simp) : EvR g (.List es pos) ρ B (.o (.l ds)) B1 :=
  ⟨fun X hX => PE.imp (pe_lst (h.h X hX)) fun σ H Q ⟨c, F, R, q⟩ => ⟨c, F, R, fun vs H1 F1 R1 e1 h1 => by
    have l1 : vs.length ≤ sizeLine := by rw [← h1.length]; exact Nat.le_of_lt (small1000 hl)
    refine ⟨l1, fun p np => ?_⟩
    exact q _ _ _ (R1.newO np) e1 ⟨p, rfl, OwnAt.new' R1 np ⟨vs, rfl, l1, h1⟩⟩ (R1.apart np)⟩⟩
/-- a new own thing as data -/
theorem EvR.fz {ct : Ct} (h : EvR g e ρ B (.o ct) B1) : Ev g e ρ B ct.d B1 :=
  ⟨fun X hX => PE.imp (h.h X hX) fun σ H Q ⟨c, F, R, q⟩ => ⟨c, F, R, fun v H1 F1 R1 e1 ⟨p, hv, ⟨ho, h1, h2⟩, n0, nF⟩ ap => by
    subst hv
    obtain ⟨R2, e2⟩ := R1.freeze h1 (CtOk.nt h2).1 n0 nF fun i ct' hi hs => ap _ rfl i ct' p hi hs rfl
    exact q _ _ _ R2 (e1.trans e2) ((h2.mono e2).rep upd_same) apart_d⟩⟩
theorem ev_lst {es : List Expr} {ds : List D} (h : Evs g es ρ B ds B1) (hl : ds.length ≤ 1000 := by first | decide | simp) : Ev g (.List es pos) ρ B (.lst ds) B1 := (evr_lst h hl).fz
end
end PD
namespace PD
open PySem PySem.Spec PyProof.Rows L2

section
variable {g : G} {ρ : Rho} {B B1 B2 B3 : Bag} {a b e : Expr} {pos p : Pos} {x y z d : D} {es : List Expr} {ds : List D} {n : Str}

abbrev Glb (g : G) (n : Str) : Prop := g.sc.names.lookup n = some .globalImplicit
theorem Glb.at {X : Cx} (h : Glb g n) (hX : At g X) : Gl X n := by
  show X.env.scope.names.lookup n = _
  rw [hX.hs]; exact h

/-! ### calls of built-ins -/
def CallD (g : G) (f : Value) (ds : List D) (z : Res) : Prop :=
  ∀ X, At g X → ∃ r : List V → Hp → VK → Prop, CallR X f r ∧ ∀ (c : C0) (ρ : Rho) (B : Bag) (σ : L2.St) (H F : Hp) (vs : List V) (Q : VK), Rel g.T.K c ρ B σ H F → RepAll g.T.K c.β F ds vs →
    (∀ u H' F', Rel g.T.K c ρ B σ H' F' → Same F F' → ResOk g.T.K c H' F' z u → Apart ρ σ z u → Q u H') → r vs H Q
theorem ev_callB {z : Res} {id : String} (hc : CallD g (.builtin id) ds z) (hg : Glb g n) (hm : g.T.mg n = none) (hv : bootBuiltins n = some (.builtin id)) (ha : Evs g (e :: es) ρ B ds B1) (hn : n ≠ "__name__" := by decide) (hdb : (n == ("__debug__" : Str)) = false := by decide)
    (he : ∀ env : Env, starEach (e :: es) env = (false, eval e env) :: starEach es env := by intro _; rfl) (hpl : ∀ env : Env, (backTo pos (starEach es env)).any (·.1) = false := by intro _; rfl) : EvR g (.Call (.Name n p) (e :: es) [] pos) ρ B z B1 :=
  ⟨fun X hX =>
    let ⟨r, cr, h⟩ := hc X hX
    PE.imp (pe_callB cr (hg.at hX) (by rw [hX.hm]; exact hm) hv (ha.h X hX) hn hdb (he X.env) (hpl X.env)) fun σ H Q ⟨c, F, R, q⟩ => ⟨c, F, R, fun vs H1 F1 R1 e1 h1 => h c ρ B1 σ H1 F1 vs Q R1 h1 fun u H' F' R' e' hu ap => q u H' F' R' (e1.trans e') hu ap⟩⟩
theorem ev_callTy {z : Res} {id : String} (hc : CallD g (.type id) ds z) (hg : Glb g n) (hm : g.T.mg n = none) (hv : bootBuiltins n = some (.type id)) (ha : Evs g (e :: es) ρ B ds B1) (hn : n ≠ "__name__" := by decide) (hdb : (n == ("__debug__" : Str)) = false := by decide)
    (he : ∀ env : Env, starEach (e :: es) env = (false, eval e env) :: starEach es env := by intro _; rfl) (hpl : ∀ env : Env, (backTo pos (starEach es env)).any (·.1) = false := by intro _; rfl) : EvR g (.Call (.Name n p) (e :: es) [] pos) ρ B z B1 :=
  ⟨fun X hX =>
    let ⟨r, cr, h⟩ := hc X hX
    PE.imp (pe_callTy cr (hg.at hX) (by rw [hX.hm]; exact hm) hv (ha.h X hX) hn hdb (he X.env) (hpl X.env)) fun σ H Q ⟨c, F, R, q⟩ => ⟨c, F, R, fun vs H1 F1 R1 e1 h1 => h c ρ B1 σ H1 F1 vs Q R1 h1 fun u H' F' R' e' hu ap => q u H' F' R' (e1.trans e') hu ap⟩⟩

/-- a list or a tuple as data -/
def D.seq : D → Option (List D)
  | .tup ds => some ds
  | .lst ds => some ds
  | _ => none
theorem SqL.sub {K : PySem.W.Frag} {F H : Hp} {a : Addr} {xs : List V} (s : Same F H) (h : F a = some (.lst xs)) : SqL K H a xs := .inl (.inl (s _ _ h))
theorem Rep.seq {K : PySem.W.Frag} {β : Option Addr} {F H : Hp} {x : D} {ds : List D} {v : V} (s : Same F H) (h : Rep K β F x v) (hx : x.seq = some ds) : ∃ a vs, v = .ref a ∧ (SqL K H a vs ∨ SqT K H a vs) ∧ vs.length ≤ sizeLine ∧ RepAll K β F ds vs := by
  cases h with
  | tup h1 h2 h3 => cases hx; exact ⟨_, _, rfl, .inr (Same.seqT s h1), h2, h3⟩
  | lst h1 h2 h3 => cases hx; exact ⟨_, _, rfl, .inl (SqL.sub s h1), h2, h3⟩
  | _ => cases hx
theorem all1 {K : PySem.W.Frag} {β : Option Addr} {F : Hp} {x : D} {vs : List V} (h : RepAll K β F [x] vs) : ∃ v, vs = [v] ∧ Rep K β F x v := by
  cases h with
  | cons h t => cases t; exact ⟨_, rfl, h⟩
theorem all2 {K : PySem.W.Frag} {β : Option Addr} {F : Hp} {x y : D} {vs : List V} (h : RepAll K β F [x, y] vs) : ∃ v w, vs = [v, w] ∧ Rep K β F x v ∧ Rep K β F y w := by
  cases h with
  | cons h t =>
    obtain ⟨w, rfl, h2⟩ := all1 t
    exact ⟨_, _, rfl, h, h2⟩
theorem k_len (h : x.seq = some ds) : CallD g (.builtin "len") [x] (.d (.int ds.length)) := fun X hX => ⟨_, call_len_seq (X := X), fun c ρ B σ H F vs Q R hvs q => by
  obtain ⟨v, rfl, h1⟩ := all1 hvs
  obtain ⟨a, ws, rfl, hs, _, hr⟩ := h1.seq R.sub h
  refine ⟨a, ws, rfl, by rw [hX.hK]; exact hs, ?_⟩
  rw [← hr.length]
  exact q _ H F R (Same.refl F) (.int _) apart_d⟩
theorem k_all {bs : List Bool} : CallD g (.builtin "all") [.lst (bs.map .bl)] (.d (.bl (bs.all id))) := fun X hX => ⟨_, cr_all hX.calm, fun c ρ B σ H F vs Q R hvs q => by
  obtain ⟨v, rfl, h1⟩ := all1 hvs
  cases h1 with
  | lst h1 h2 h3 =>
    cases h3.bls
    exact ⟨_, bs, rfl, SqL.sub R.sub h1, q _ H F R (Same.refl F) (.bl _) apart_d⟩⟩
theorem k_any {bs : List Bool} : CallD g (.builtin "any") [.lst (bs.map .bl)] (.d (.bl (bs.any id))) := fun X hX => ⟨_, cr_any hX.calm, fun c ρ B σ H F vs Q R hvs q => by
  obtain ⟨v, rfl, h1⟩ := all1 hvs
  cases h1 with
  | lst h1 h2 h3 =>
    cases h3.bls
    exact ⟨_, bs, rfl, SqL.sub R.sub h1, q _ H F R (Same.refl F) (.bl _) apart_d⟩⟩
theorem k_sum {ns : List Int} : CallD g (.builtin "sum") [.lst (ns.map .int)] (.d (.int ns.sum)) := fun X hX => ⟨_, cr_sum hX.calm, fun c ρ B σ H F vs Q R hvs q => by
  obtain ⟨v, rfl, h1⟩ := all1 hvs
  cases h1 with
  | lst h1 h2 h3 =>
    cases h3.ints
    exact ⟨_, ns, rfl, SqL.sub R.sub h1, q _ H F R (Same.refl F) (.int _) apart_d⟩⟩
/-- the greatest, the least of a list of ints -/
def maxL (ns : List Int) : Int := ns.max?.getD 0
def minL (ns : List Int) : Int := ns.min?.getD 0
theorem maxL_eq {ns : List Int} {m : Int} (h1 : m ∈ ns) (h2 : ∀ y, y ∈ ns → y ≤ m) : m = maxL ns := by
  unfold maxL
  rw [List.max?_eq_some_iff.mpr ⟨h1, h2⟩]
  rfl
theorem minL_eq {ns : List Int} {m : Int} (h1 : m ∈ ns) (h2 : ∀ y, y ∈ ns → m ≤ y) : m = minL ns := by
  unfold minL
  rw [List.min?_eq_some_iff.mpr ⟨h1, h2⟩]
  rfl
theorem k_max {ns : List Int} (hn : ns ≠ []) : CallD g (.builtin "max") [.lst (ns.map .int)] (.d (.int (maxL ns))) := fun X hX => ⟨_, cr_max hX.calm, fun c ρ B σ H F vs Q R hvs q => by
  obtain ⟨v, rfl, h1⟩ := all1 hvs
  cases h1 with
  | lst h1 h2 h3 =>
    cases h3.ints
    exact ⟨_, ns, rfl, SqL.sub R.sub h1, List.length_pos_iff.mpr hn, fun m hm hle => by rw [maxL_eq hm hle]; exact q _ H F R (Same.refl F) (.int _) apart_d⟩⟩
theorem k_min {ns : List Int} (hn : ns ≠ []) : CallD g (.builtin "min") [.lst (ns.map .int)] (.d (.int (minL ns))) := fun X hX => ⟨_, cr_min hX.calm, fun c ρ B σ H F vs Q R hvs q => by
  obtain ⟨v, rfl, h1⟩ := all1 hvs
  cases h1 with
  | lst h1 h2 h3 =>
    cases h3.ints
    exact ⟨_, ns, rfl, SqL.sub R.sub h1, List.length_pos_iff.mpr hn, fun m hm hle => by rw [minL_eq hm hle]; exact q _ H F R (Same.refl F) (.int _) apart_d⟩⟩
theorem k_min2 {i j : Int} : CallD g (.builtin "min") [.int i, .int j] (.d (.int (if j < i then j else i))) := fun X hX => ⟨_, call_min2 hX.calm, fun c ρ B σ H F vs Q R hvs q => by
  obtain ⟨v, w, rfl, h1, h2⟩ := all2 hvs
  cases h1
  cases h2
  exact ⟨i, j, rfl, q _ H F R (Same.refl F) (.int _) apart_d⟩⟩
/-- sorted ints -/
def sortL (ns : List Int) : List Int := ns.mergeSort (fun a b => decide (a ≤ b))
theorem sortL_eq {ns ms : List Int} (hp : ms.Perm ns) (hs : ms.Pairwise (· ≤ ·)) : ms = sortL ns := by
  have h1 : (sortL ns).Pairwise (· ≤ ·) := by
    have := List.pairwise_mergeSort (le := fun a b : Int => decide (a ≤ b)) (fun a b c h1 h2 => by simp only [decide_eq_true_eq] at *; omega) (fun a b => by simp only [Bool.or_eq_true, decide_eq_true_eq]; omega) ns
    exact this.imp fun h => of_decide_eq_true h
  have h2 : ms.Perm (sortL ns) := hp.trans (List.mergeSort_perm ns _).symm
  exact h2.eq_of_pairwise (fun a b _ _ hab hba => Int.le_antisymm hab hba) hs h1
theorem k_sortI {ns : List Int} : CallD g (.builtin "sorted") [.lst (ns.map .int)] (.o (.l ((sortL ns).map .int))) := fun X hX => ⟨_, cr_sortedI (X := X), fun c ρ B σ H F vs Q R hvs q => by
  obtain ⟨v, rfl, h1⟩ := all1 hvs
  cases h1 with
  | lst h1 h2 h3 =>
    cases h3.ints
    refine ⟨_, ns, rfl, SqL.sub R.sub h1, fun ns' p hp hs np => ?_⟩
    have hl : (ns'.map V.int).length ≤ sizeLine := by
      rw [List.length_map, hp.length_eq]
      rw [List.length_map] at h2
      exact h2
    cases sortL_eq hp hs
    exact q _ _ F (R.newO np) (Same.refl F) ⟨p, rfl, OwnAt.new' R np ⟨_, rfl, hl, RepAll.ofInts _⟩⟩ (R.apart np)⟩
theorem k_list (h : x.seq = some ds) : CallD g (.type "list") [x] (.o (.l ds)) := fun X hX => ⟨_, call_list_of (X := X), fun c ρ B σ H F vs Q R hvs q => by
  obtain ⟨v, rfl, h1⟩ := all1 hvs
  obtain ⟨a, ws, rfl, hs, hl, hr⟩ := h1.seq R.sub h
  exact ⟨a, ws, rfl, by rw [hX.hK]; exact hs, fun p np => q _ _ F (R.newO np) (Same.refl F) ⟨p, rfl, OwnAt.new' R np ⟨_, rfl, hl, hr⟩⟩ (R.apart np)⟩⟩
theorem k_tuple (h : x.seq = some ds) : CallD g (.type "tuple") [x] (.d (.tup ds)) := fun X hX => ⟨_, call_tuple_of (X := X), fun c ρ B σ H F vs Q R hvs q => by
  obtain ⟨v, rfl, h1⟩ := all1 hvs
  cases h1 with
  | tup h1 h2 h3 =>
    cases h
    exact ⟨_, _, rfl, .inr ⟨by rw [hX.hK]; exact Same.seqT R.sub h1, q _ H F R (Same.refl F) (.tup h1 h2 h3) apart_d⟩⟩
  | lst h1 h2 h3 =>
    cases h
    refine ⟨_, _, rfl, .inl ⟨SqL.sub R.sub h1, fun p np => ?_⟩⟩
    obtain ⟨R2, e2⟩ := R.new (o := .tup _) np
    exact q _ _ _ R2 e2 (.tup (.inl (.inl upd_same)) h2 (h3.mono e2)) apart_d
  | _ => cases h⟩

/-! ### isinstance -/
def D.ty : D → Option String
  | .non => some "NoneType"
  | .bl _ => some "bool"
  | .int _ => some "int"
  | .str _ => some "str"
  | .tup _ => some "tuple"
  | .lst _ => some "list"
  | .dct _ => some "dict"
  | .bag => some "list"
  | .val _ => none
  | .scr _ => none
  | .lmv .. => none
  | .lam .. => none
theorem Rep.ty {K : KT} {c : C0} {B : Bag} {ρ : Rho} {σ : L2.St} {H F : Hp} {x : D} {v : V} {T : String} (R : Rel K c ρ B σ H F) (h : Rep K c.β F x v) (ht : x.ty = some T) : TyX K H v (.type T) := by
  cases h with
  | non => cases ht; exact .base .non
  | bl b => cases ht; exact .base (.bl b)
  | int b => cases ht; exact .base (.int b)
  | str b => cases ht; exact .base (.str b)
  | tup h1 h2 h3 =>
    cases ht
    rcases Same.seqT R.sub h1 with (h | ⟨o, h⟩) | ⟨o, its, n, h, hc, _⟩
    · exact .base (.tup h)
    · exact .fTuple h
    · exact .kTuple h hc
  | lst h1 h2 h3 => cases ht; exact .base (.lst (R.sub _ _ h1))
  | dct h1 => cases ht; exact .base (.dK (R.sub _ _ h1))
  | bag h1 => cases ht; exact .base (.lst (R.bag _ h1).1)
  | val v => cases ht
  | scr h => cases ht
  | lmv h1 h2 => cases ht
  | lam h1 h2 => cases ht
theorem k_isi {T n : String} {k : Bool} (ht : x.ty = some T) (hk : kitB T n = some k) : CallD g (.builtin "isinstance") [x, .val (.ty n)] (.d (.bl k)) := fun X hX => ⟨_, call_isi (X := X), fun c ρ B σ H F vs Q R hvs q => by
  obtain ⟨v, w, rfl, h1, h2⟩ := all2 hvs
  cases h2
  exact ⟨v, _, _, _, k, rfl, .ty n, by rw [hX.hK]; exact h1.ty R ht, kit_ty hk, q _ H F R (Same.refl F) (.bl _) apart_d⟩⟩
theorem call_isiS {X : Cx} : CallR X (.builtin "isinstance") (fun xs H Q => ∃ (x : V) (tp : Addr) (cs : List V) (t : Value) (us : List Value) (b : Bool), xs = [x, .ref tp] ∧ SqT X.K H tp cs ∧ Paired ClsV cs us ∧ TyX X.K H x t ∧ PySem.W.kitAny X.K t us = some b ∧ Q (.bl b) H) := by
  intro pins s σ H xs us Q I r h
  obtain ⟨x, tp, cs, t, ws, b, rfl, hT, k, ty, e, q⟩ := h
  obtain ⟨u1, u2, rfl, r1, r2⟩ := vals2 r
  cases (show u2 = Value.ref tp from r2)
  obtain ⟨P, Z, p, hx⟩ := kit_of I r1 ty
  obtain ⟨its, rv, ⟨o, h1, h2, n, h3⟩, _⟩ := I.tuple hT
  have e3 := ClsV.all k rv
  subst e3
  obtain ⟨oc, od, dt, sl⟩ := o
  simp only at h2 h3
  subst h2 h3
  exact PySem.W.kia_tup Z I.kIn p h1 e hx fun tk => ⟨.bl b, H, I.tok tk, rfl, q⟩
theorem k_isiT {T : String} {ns : List String} {k : Bool} (ht : x.ty = some T) (hk : ∀ K : PySem.W.Frag, PySem.W.kitAny K (.type T) (ns.map Value.type) = some k) : CallD g (.builtin "isinstance") [x, .tup (ns.map fun n => .val (.ty n))] (.d (.bl k)) := fun X hX => ⟨_, call_isiS (X := X), fun c ρ B σ H F vs Q R hvs q => by
  obtain ⟨v, w, rfl, h1, h2⟩ := all2 hvs
  cases h2 with
  | @tup a xs _ h2 hl h3 =>
    have all : ∀ (ns : List String) (xs : List V), RepAll g.T.K c.β F (ns.map fun n => D.val (.ty n)) xs → xs = ns.map V.ty := by
      intro ns
      induction ns with
      | nil => intro xs h; cases h; rfl
      | cons n ns ih => intro xs h; cases h with | cons h t => cases h; rw [ih _ t]; rfl
    cases all ns xs h3
    have pr : ∀ ns : List String, Paired ClsV (ns.map V.ty) (ns.map Value.type) := by
      intro ns
      induction ns with
      | nil => exact .nil
      | cons n ns ih => exact .cons (.ty n) ih
    exact ⟨v, a, _, _, _, k, rfl, by rw [hX.hK]; exact Same.seqT R.sub h2, pr ns, by rw [hX.hK]; exact h1.ty R ht, hk _, q (.bl k) H F R (Same.refl F) (.bl _) apart_d⟩⟩

/-! ### subscripts -/
def PlainIxE (b : Expr) : Prop := ∀ o i, subscripted b false o i = operate [o, i] (getItem o i)
theorem ev_ix {i : Int} (ha : Ev g a ρ B x B1) (hb : Ev g b ρ B1 (.int i) B2) (hx : x.seq = some ds) (hi : atI ds i = some d) (hs : PlainIxE b := by intro _ _; rfl) : Ev g (.Subscript a b pos) ρ B d B2 := by
  refine ⟨fun X hX => PE.imp (pe_ix (ix_list.or ix_tup) (ha.h X hX) (hb.h X hX) hs) fun σ H Q ⟨c, F, R, q⟩ => two R fun v w H2 F2 R2 e2 h1 h2 => ?_⟩
  cases h2
  obtain ⟨p, vs, rfl, hsq, hl, hr⟩ := h1.seq R2.sub hx
  have hlen := hr.length
  unfold atI at hi
  obtain ⟨j, h3, h4⟩ := Option.bind_eq_some_iff.mp hi
  obtain ⟨u, h5, h6⟩ := hr.get h4
  have hat : atI vs i = some u := by
    unfold atI
    rw [← hlen, h3]
    exact h5
  rcases hsq with hq | hq
  · exact .inl ⟨p, vs, i, u, rfl, rfl, by rw [hX.hK]; exact hq, hat, q u H2 F2 R2 e2 h6 apart_d⟩
  · exact .inr ⟨p, vs, i, u, rfl, rfl, by rw [hX.hK]; exact hq, hat, q u H2 F2 R2 e2 h6 apart_d⟩
/-- bag[i] -/
theorem ev_ixBag {i z : Int} (ha : Ev g a ρ B .bag B1) (hb : Ev g b ρ B1 (.int i) B2) (hi : atI [B2.1, B2.2.1, B2.2.2] i = some z) (hs : PlainIxE b := by intro _ _; rfl) : Ev g (.Subscript a b pos) ρ B (.int z) B2 := by
  refine ⟨fun X hX => PE.imp (pe_ix ix_list (ha.h X hX) (hb.h X hX) hs) fun σ H Q ⟨c, F, R, q⟩ => two R fun v w H2 F2 R2 e2 h1 h2 => ?_⟩
  cases h2
  cases h1 with
  | bag hβ =>
    refine ⟨_, [.int B2.1, .int B2.2.1, .int B2.2.2], i, .int z, rfl, rfl, .inl (.inl (R2.bag _ hβ).1), ?_, q _ H2 F2 R2 e2 (.int _) apart_d⟩
    unfold atI at hi ⊢
    obtain ⟨j, h3, h4⟩ := Option.bind_eq_some_iff.mp hi
    have h3' : ixN [V.int B2.1, V.int B2.2.1, V.int B2.2.2].length i = some j := h3
    rw [h3']
    show [V.int B2.1, V.int B2.2.1, V.int B2.2.2][j]? = some (.int z)
    match j, h4 with
    | 0, h4 => cases h4; rfl
    | 1, h4 => cases h4; rfl
    | 2, h4 => cases h4; rfl

/-! ### slices -/
def cutD (xs : List D) (lo hi : Option Int) : List D := (xs.drop (HT.sIx xs.length 0 lo)).take (HT.sIx xs.length xs.length hi - HT.sIx xs.length 0 lo)
/-- a bound of a slice -/
structure Po (g : G) (e : Option Expr) (ρ : Rho) (B : Bag) (i : Option Int) (B' : Bag) : Prop where
  h : ∀ X, At g X → ∃ t : TO, PO X e t ∧ ∀ (c : C0) (σ : L2.St) (H F : Hp) (Q : Option Int → Hp → Prop), Rel g.T.K c ρ B σ H F → (∀ H' F', Rel g.T.K c ρ B' σ H' F' → Same F F' → Q i H') → t σ H Q
theorem po_no : Po g none ρ B none B := ⟨fun X hX => ⟨_, po_none, fun c σ H F Q R q => q H F R (Same.refl F)⟩⟩
theorem po_so {i : Int} (h : Ev g e ρ B (.int i) B1) : Po g (some e) ρ B (some i) B1 := ⟨fun X hX => ⟨_, po_some (h.h X hX), fun c σ H F Q R q => ⟨c, F, R, fun v H1 F1 R1 e1 h1 _ => by
  cases h1
  exact ⟨i, rfl, q H1 F1 R1 e1⟩⟩⟩⟩
theorem cutD_rep {K : PySem.W.Frag} {β : Option Addr} {F : Hp} {vs : List V} {lo hi : Option Int} (h : RepAll K β F ds vs) : RepAll K β F (cutD ds lo hi) (cutV vs lo hi) := by
  unfold cutD cutV
  rw [h.length]
  exact (h.drop _).take _
theorem cutD_whole {lo hi : Option Int} (h : HT.sIx ds.length 0 lo = 0 ∧ HT.sIx ds.length ds.length hi = ds.length) : cutD ds lo hi = ds := by
  unfold cutD
  rw [h.1, h.2, Nat.sub_zero, List.drop_zero, List.take_length]
theorem ev_slT {lo hi : Option Expr} {l u : Option Int} {p2 : Pos} (ha : Ev g a ρ B (.tup ds) B1) (hl : Po g lo ρ B1 l B2) (hu : Po g hi ρ B2 u B3) : Ev g (.Subscript a (.Slice lo hi none p2) pos) ρ B (.tup (cutD ds l u)) B3 := by
  refine ⟨fun X hX => ?_⟩
  obtain ⟨tl, pl, ql⟩ := hl.h X hX
  obtain ⟨tu, pu, qu⟩ := hu.h X hX
  refine PE.imp (pe_slice sl_tupA (ha.h X hX) pl pu) fun σ H Q ⟨c, F, R, q⟩ => ⟨c, F, R, fun v H1 F1 R1 e1 h1 _ => ql c σ H1 F1 _ R1 fun H2 F2 R2 e2 => qu c σ H2 F2 _ R2 fun H3 F3 R3 e3 => ?_⟩
  have hh : Rep g.T.K c.β F3 (.tup ds) v := Rep.mono (e2.trans e3) h1
  clear h1
  cases hh with
  | tup h1 h2 h3 =>
    refine ⟨_, _, rfl, by rw [hX.hK]; exact Same.seqT R3.sub h1, fun w => ?_, fun w p np => ?_⟩
    · rw [← h3.length] at w
      rw [cutD_whole w] at q
      exact q _ H3 F3 R3 ((e1.trans e2).trans e3) (.tup h1 h2 h3) apart_d
    · obtain ⟨R4, e4⟩ := R3.new (o := .tup (cutV _ l u)) np
      exact q _ _ _ R4 (((e1.trans e2).trans e3).trans e4) (.tup (.inl (.inl upd_same)) (Nat.le_trans (cutV_length _ _ _) h2) (cutD_rep (h3.mono e4))) apart_d

/-! ### lists and tuples put together -/
theorem b_catL {xs ys : List D} (hl : xs.length + ys.length ≤ 1000000) : BinD g (binaryOp .Add) (.lst xs) (.lst ys) (.o (.l (xs ++ ys))) := fun X hX => ⟨_, op_cat (X := X), fun c ρ B σ H F v w Q R h1 h2 q => by
  cases h1 with
  | lst h1 l1 r1 =>
    cases h2 with
    | lst h2 l2 r2 =>
      have hz : (sizeLine : Nat) = 16777216 := sizeLine_eq
      have e1 := r1.length
      have e2 := r2.length
      refine ⟨_, _, _, _, rfl, rfl, R.sub _ _ h1, R.sub _ _ h2, by omega, fun p np => ?_⟩
      exact q _ _ F (R.newO np) (Same.refl F) ⟨p, rfl, OwnAt.new' R np ⟨_, rfl, by rw [List.length_append]; omega, r1.append r2⟩⟩ (R.apart np)⟩
theorem b_catT {xs ys : List D} (hl : xs.length + ys.length ≤ 1000000) : BinD g (binaryOp .Add) (.tup xs) (.tup ys) (.d (.tup (xs ++ ys))) := fun X hX => ⟨_, op_catA (X := X), fun c ρ B σ H F v w Q R h1 h2 q => by
  cases h1 with
  | tup h1 l1 r1 =>
    cases h2 with
    | tup h2 l2 r2 =>
      have hz : (sizeLine : Nat) = 16777216 := sizeLine_eq
      have e1 := r1.length
      have e2 := r2.length
      refine ⟨_, _, _, _, rfl, rfl, by rw [hX.hK]; exact Same.seqT R.sub h1, by rw [hX.hK]; exact Same.seqT R.sub h2, by omega, fun z => ?_, fun z1 z2 => ?_, fun z1 z2 p np => ?_⟩
      · subst z
        cases r1
        exact q _ H F R (Same.refl F) (.tup h2 l2 r2) apart_d
      · subst z2
        cases r2
        rw [List.append_nil] at q
        exact q _ H F R (Same.refl F) (.tup h1 l1 r1) apart_d
      · obtain ⟨R4, e4⟩ := R.new (o := .tup _) np
        exact q _ _ _ R4 e4 (.tup (.inl (.inl upd_same)) (by rw [List.length_append]; omega) ((r1.append r2).mono e4)) apart_d⟩
theorem ev_catT {xs ys : List D} (ha : Ev g a ρ B (.tup xs) B1) (hb : Ev g b ρ B1 (.tup ys) B2) (hl : xs.length + ys.length ≤ 1000000) : Ev g (.BinOp a .Add b pos) ρ B (.tup (xs ++ ys)) B2 := ev_bin (b_catT hl) ha hb
theorem ev_catL {xs ys : List D} (ha : Ev g a ρ B (.lst xs) B1) (hb : Ev g b ρ B1 (.lst ys) B2) (hl : xs.length + ys.length ≤ 1000000) : Ev g (.BinOp a .Add b pos) ρ B (.lst (xs ++ ys)) B2 := (binR (b_catL hl) ha hb).fz

/-! ### in -/
def D.flat : D → Option V
  | .int i => some (.int i)
  | .bl b => some (.bl b)
  | .str s => some (.str s)
  | .non => some .non
  | _ => none
theorem Rep.flat {K : PySem.W.Frag} {β : Option Addr} {F : Hp} {x : D} {u v : V} (h : Rep K β F x v) (hx : x.flat = some u) : v = u ∧ flatV v = true := by
  cases h with
  | non => cases hx; exact ⟨rfl, rfl⟩
  | bl b => cases hx; exact ⟨rfl, rfl⟩
  | int b => cases hx; exact ⟨rfl, rfl⟩
  | str b => cases hx; exact ⟨rfl, rfl⟩
  | _ => cases hx
theorem RepAll.flats {K : PySem.W.Frag} {β : Option Addr} {F : Hp} : ∀ {ds : List D} {us vs : List V}, RepAll K β F ds vs → ds.mapM D.flat = some us → vs = us ∧ vs.all flatV = true
  | _, _, _, .nil, h => by cases h; exact ⟨rfl, rfl⟩
  | d :: ds, us, _, .cons h t, hx => by
    rw [List.mapM_cons] at hx
    obtain ⟨u, h1, hx⟩ := Option.bind_eq_some_iff.mp hx
    obtain ⟨us', h2, hx⟩ := Option.bind_eq_some_iff.mp hx
    cases hx
    obtain ⟨rfl, f1⟩ := h.flat h1
    obtain ⟨rfl, f2⟩ := t.flats h2
    exact ⟨rfl, by rw [List.all_cons, f1, f2]; rfl⟩
theorem c_in {us : List V} {u : V} {k : Bool} (hx : x.flat = some u) (hy : y.seq = some ds) (hd : ds.mapM D.flat = some us) (hk : inV u us = k) : BinD g (compareOp .In) x y (.d (.bl k)) := fun X hX => ⟨_, op_in_seq (X := X), fun c ρ B σ H F v w Q R h1 h2 q => by
  obtain ⟨rfl, f1⟩ := h1.flat hx
  obtain ⟨p, vs, rfl, hsq, hl, hr⟩ := h2.seq R.sub hy
  obtain ⟨rfl, f2⟩ := hr.flats hd
  refine ⟨p, vs, rfl, by rw [hX.hK]; exact hsq, f1, f2, ?_⟩
  rw [hk]
  exact q _ H F R (Same.refl F) (.bl _) apart_d⟩
theorem c_notIn {us : List V} {u : V} {k : Bool} (hx : x.flat = some u) (hy : y.seq = some ds) (hd : ds.mapM D.flat = some us) (hk : inV u us = k) : BinD g (compareOp .NotIn) x y (.d (.bl (!k))) := fun X hX => ⟨_, op_notIn_seq (X := X), fun c ρ B σ H F v w Q R h1 h2 q => by
  obtain ⟨rfl, f1⟩ := h1.flat hx
  obtain ⟨p, vs, rfl, hsq, hl, hr⟩ := h2.seq R.sub hy
  obtain ⟨rfl, f2⟩ := hr.flats hd
  refine ⟨p, vs, rfl, by rw [hX.hK]; exact hsq, f1, f2, ?_⟩
  rw [hk]
  exact q _ H F R (Same.refl F) (.bl _) apart_d⟩
theorem flats_ints : ∀ ns : List Int, (ns.map D.int).mapM D.flat = some (ns.map V.int)
  | [] => rfl
  | n :: ns => by
    rw [List.map_cons, List.mapM_cons, flats_ints ns]
    rfl
theorem inV_ints {i : Int} : ∀ {ns : List Int}, inV (.int i) (ns.map V.int) = decide (i ∈ ns)
  | [] => rfl
  | n :: ns => by
    unfold inV
    rw [List.map_cons, List.any_cons]
    have := @inV_ints i ns
    unfold inV at this
    rw [this]
    have e : eqV (V.int n) (V.int i) = decide (i = n) := by
      show (n == i) = _
      rw [Bool.beq_eq_decide_eq]
      exact decide_eq_decide.mpr eq_comm
    rw [e, ← Bool.decide_or]
    exact decide_eq_decide.mpr List.mem_cons.symm
theorem c_inI {i : Int} {ns : List Int} (hy : y.seq = some (ns.map .int)) : BinD g (compareOp .In) (.int i) y (.d (.bl (decide (i ∈ ns)))) := c_in rfl hy (flats_ints ns) inV_ints
theorem c_notInI {i : Int} {ns : List Int} (hy : y.seq = some (ns.map .int)) : BinD g (compareOp .NotIn) (.int i) y (.d (.bl (!decide (i ∈ ns)))) := c_notIn rfl hy (flats_ints ns) inV_ints

/-! ### == of data -/
mutual
def D.py : D → Option PyData
  | .non => some .none
  | .bl b => some (.bool b)
  | .int i => some (.int i)
  | .str s => some (.str s)
  | .tup ds => (D.pys ds).map .tuple
  | .lst ds => (D.pys ds).map .list
  | _ => none
def D.pys : List D → Option (List PyData)
  | [] => some []
  | d :: ds => match D.py d, D.pys ds with
    | some x, some xs => some (x :: xs)
    | _, _ => none
end
mutual
theorem Rep.py {K : PySem.W.Frag} {β : Option Addr} {F H : Hp} (s : Same F H) : ∀ {x : D} {v : V} {pd : PyData}, Rep K β F x v → x.py = some pd → Dp K H v pd
  | _, _, _, .non, h => by unfold D.py at h; cases h; exact .non
  | _, _, _, .bl b, h => by unfold D.py at h; cases h; exact .bl b
  | _, _, _, .int b, h => by unfold D.py at h; cases h; exact .int b
  | _, _, _, .str b, h => by unfold D.py at h; cases h; exact .str b
  | .tup ds, _, _, .tup h1 h2 h3, h => by
    unfold D.py at h
    obtain ⟨ps, hp, h⟩ := Option.map_eq_some_iff.mp h
    subst h
    exact .tup (Same.seqT s h1) (RepAll.py s h3 hp)
  | .lst ds, _, _, .lst h1 h2 h3, h => by
    unfold D.py at h
    obtain ⟨ps, hp, h⟩ := Option.map_eq_some_iff.mp h
    subst h
    exact .lst (SqL.sub s h1) (RepAll.py s h3 hp)
  | _, _, _, .dct .., h => by unfold D.py at h; cases h
  | _, _, _, .bag _, h => by unfold D.py at h; cases h
  | _, _, _, .val _, h => by unfold D.py at h; cases h
  | _, _, _, .scr _, h => by unfold D.py at h; cases h
  | _, _, _, .lmv .., h => by unfold D.py at h; cases h
  | _, _, _, .lam .., h => by unfold D.py at h; cases h
theorem RepAll.py {K : PySem.W.Frag} {β : Option Addr} {F H : Hp} (s : Same F H) : ∀ {xs : List D} {vs : List V} {ps : List PyData}, RepAll K β F xs vs → D.pys xs = some ps → DpAll K H vs ps
  | _, _, _, .nil, h => by unfold D.pys at h; cases h; exact .nil
  | d :: ds, _, _, .cons h1 h2, h => by
    unfold D.pys at h
    split at h
    · rename_i x xs hx hxs
      cases h
      exact .cons (Rep.py s h1 hx) (RepAll.py s h2 hxs)
    · cases h
end
theorem c_eqD {px py : PyData} (hx : x.py = some px) (hy : y.py = some py) (sx : SeqAt.shaped px = true) (sy : SeqAt.shaped py = true) : BinD g (compareOp .Eq) x y (.d (.bl (PyData.eqv px py))) := fun X hX => ⟨_, op_eqD hX.room.units, fun c ρ B σ H F v w Q R h1 h2 q => by
  exact ⟨px, py, by rw [hX.hK]; exact h1.py R.sub hx, by rw [hX.hK]; exact h2.py R.sub hy, sx, sy, q _ H F R (Same.refl F) (.bl _) apart_d⟩⟩
theorem c_neD {px py : PyData} (hx : x.py = some px) (hy : y.py = some py) (sx : SeqAt.shaped px = true) (sy : SeqAt.shaped py = true) : BinD g (compareOp .NotEq) x y (.d (.bl (!PyData.eqv px py))) := fun X hX => ⟨_, op_neD hX.room.units, fun c ρ B σ H F v w Q R h1 h2 q => by
  exact ⟨px, py, by rw [hX.hK]; exact h1.py R.sub hx, by rw [hX.hK]; exact h2.py R.sub hy, sx, sy, q _ H F R (Same.refl F) (.bl _) apart_d⟩⟩
end
end PD
namespace PD
open PySem PySem.Spec PyProof.Rows L2

/-! ### defs -/
/-- a def's promise: R tells what comes of which arguments and bag -/
abbrev Con := List D → Bag → Res → Bag → Prop
def spD (K : KT) (R : Con) : Sp := fun vs H Q _ => ∃ (β : Option Addr) (F : Hp) (ds : List D) (B : Bag) (r : Res) (B' : Bag), R ds B r B' ∧ RepAll K β F ds vs ∧ Same F H ∧ TabF K H F ∧ (∀ a, β = some a → H a = some (bagH B) ∧ F a = none) ∧
  ∀ v H' F', (∀ b o, some b ≠ β → (∀ ps, o ≠ .tbl ps) → H b = some o → H' b = some o) → (∀ b, H b ≠ none → H' b ≠ none) → TabF K H' F' → Same F F' → (∀ b, H b ≠ none → F b = none → F' b = none) → Same F' H' → (∀ a, β = some a → H' a = some (bagH B')) → ResOk K ⟨β, H, F⟩ H' F' r v → Q v H'
structure HasFn (T : Top) (k : Nat) (x : Str) (R : Con) : Prop where
  ex : ∃ (f : Addr) (fd : FuncData) (ps : List Str), T.mg x = some (.ref f) ∧ PySem.W.keepIn T.K.fr (.ref f) = true ∧ Binds T.K.fr fd ps [] ∧ FnOk T.P T.w T.K.fr T.mg T.base CX0 k f fd ps (spD T.K R)

theorem rel_call {K : KT} {c : C0} {ρ : Rho} {B B' : Bag} {σ : L2.St} {H F H' F' : Hp} (R : Rel K c ρ B σ H F) (fr : ∀ b o, some b ≠ c.β → (∀ ps, o ≠ .tbl ps) → H b = some o → H' b = some o) (st : ∀ b, H b ≠ none → H' b ≠ none) (tab : TabF K H' F') (e : Same F F') (dj : ∀ b, H b ≠ none → F b = none → F' b = none) (sub : Same F' H')
    (bg : ∀ a, c.β = some a → H' a = some (bagH B')) : Rel K c ρ B' σ H' F' where
  len := R.len
  fr := fun b o hb ho h => fr b o hb ho (R.fr b o hb ho h)
  st := fun b h => st b (R.st b h)
  tab := tab
  gr := R.gr.trans e
  dj := fun b h1 h2 => dj b (R.st b h1) (R.dj b h1 h2)
  sub := sub
  bag := fun a h => ⟨bg a h, (R.bag a h).2⟩
  dat := fun i x h => let ⟨v, h1, h2⟩ := R.dat i x h; ⟨v, h1, h2.mono e⟩
  own := fun i ct h => by
    obtain ⟨p, h1, ⟨ho, h2, h3⟩, h4, h5⟩ := R.own i ct h
    exact ⟨p, h1, ⟨ho, fr p _ (R.H_none h4) (CtOk.nt h3).1 h2, h3.mono e⟩, h4, dj p (by rw [h2]; exact fun z => nomatch z) h5⟩
  sep := R.sep

section
variable {g : G} {ρ : Rho} {B B1 B2 B3 : Bag} {a b e : Expr} {pos p : Pos} {x y z d : D} {es : List Expr} {ds : List D} {n : Str}
/-- the reading of a call, once the arguments stand -/
theorem call_sp {K : KT} {c : C0} {σ : L2.St} {H F : Hp} {R : Con} {r : Res} {vs : List V} {Q : VK} {E : XK} (Re : Rel K c ρ B1 σ H F) (hR : R ds B1 r B2) (h1 : RepAll K c.β F ds vs)
    (q : ∀ v H' F', Rel K c ρ B2 σ H' F' → Same F F' → ResOk K c H' F' r v → Apart ρ σ r v → Q v H') : spD K R vs H Q E := by
  refine ⟨c.β, F, ds, B1, r, B2, hR, h1, Re.sub, Re.tab, fun a ha => ⟨(Re.bag a ha).1, Re.F_bag ha⟩, fun v H' F' fr st tab e dj sub bg ok => ?_⟩
  have R2 := rel_call Re fr st tab e dj sub bg
  cases r with
  | d x => exact q v H' F' R2 e ok apart_d
  | o ct =>
    obtain ⟨p, rfl, ⟨ho, h2, h3⟩, n0, nF⟩ := ok
    exact q _ H' F' R2 e ⟨p, rfl, ⟨ho, h2, h3⟩, Re.H0_none n0, nF⟩ (Re.apart n0)
theorem ev_call {j : Nat} {R : Con} {r : Res} (hF : HasFn g.T j n R) (hj : j ≤ g.k) (hg : Glb g n) (ha : Evs g (e :: es) ρ B ds B1) (hR : R ds B1 r B2) (hdb : (n == ("__debug__" : Str)) = false := by decide)
    (he : ∀ env : Env, starEach (e :: es) env = (false, eval e env) :: starEach es env := by intro _; rfl) (hpl : ∀ env : Env, (backTo pos (starEach es env)).any (·.1) = false := by intro _; rfl) : EvR g (.Call (.Name n p) (e :: es) [] pos) ρ B r B2 := by
  refine ⟨fun X hX => ?_⟩
  obtain ⟨f, fd, ps, hm, hk, hb, F⟩ := hF.ex
  have F' : FnOk X.prog X.w X.K X.mg X.base CX0 j f fd ps (spD g.T.K R) := by
    rw [hX.hP, hX.hw, hX.hK, hX.hm, hX.hb]; exact F
  refine PE.imp (pe_call F' (hX.room.mono hj) (hg.at hX) (by rw [hX.hm]; exact hm) (by rw [hX.hK]; exact hk) (by rw [hX.hK]; exact hb) .nil pass0 (ha.h X hX) hdb (he X.env) (hpl X.env)) fun σ H Q ⟨c, F, Re, q⟩ => ⟨c, F, Re, fun vs H1 F1 R1 e1 h1 => ?_⟩
  show spD g.T.K R (vs ++ []) H1 Q E0
  rw [List.append_nil]
  exact call_sp R1 hR h1 fun v H' F' R2 e2 ok ap => q v H' F' R2 (e1.trans e2) ok ap

/-! ### blocks and small statements -/
variable {st : Stmt} {sts : List Stmt} {E : En}
theorem GoesTo.mono {K : KT} {c : C0} {F F' : Hp} {P P' : Rho → Bag → Prop} {Q : L2.St → Hp → Prop} (h : GoesTo K c F P Q) (e : Same F F') (w : ∀ ρ B, P' ρ B → P ρ B) : GoesTo K c F' P' Q := fun ρ' B' σ' H' F2 R e2 p => h ρ' B' σ' H' F2 R (e.trans e2) (w _ _ p)
theorem RetsTo.mono {K : KT} {c : C0} {F F' : Hp} {P P' : Res → Bag → Prop} {Q : VK} (h : RetsTo K c F P Q) (e : Same F F') (w : ∀ r B, P' r B → P r B) : RetsTo K c F' P' Q := fun ρ' B' σ' H' F2 r v R e2 ok p => h ρ' B' σ' H' F2 r v R (e.trans e2) ok (w _ _ p)
theorem exs_nil (h : E.nx ρ B) : Exs g [] ρ B E := ⟨fun X hX => PSs.imp pss_nil fun D σ H ⟨c, F, R, q1, _⟩ => q1 ρ B σ H F R (Same.refl F) h⟩
theorem tEx_seq {K : KT} {t u : TS} {D : Ends} {σ : L2.St} {H : Hp} {P : Rho → Bag → Prop} (h : tEx K ρ B E D σ H) (ht : ∀ D σ H, tEx K ρ B { E with nx := P } D σ H → t D σ H) (hu : ∀ ρ' B', P ρ' B' → ∀ σ H, tEx K ρ' B' E D σ H → u D σ H) : tSeq t u D σ H := by
  obtain ⟨c, F, R, q1, q2, q3, q4⟩ := h
  exact ht _ σ H ⟨c, F, R, fun ρ' B' σ' H' F' R' e' p => hu ρ' B' p σ' H' ⟨c, F', R', q1.mono e' fun _ _ z => z, q2.mono e' fun _ _ z => z, q3.mono e' fun _ _ z => z, q4.mono e' fun _ _ z => z⟩, q2, q3, q4⟩
/-- the reading of the rest: at every state that the first leaves -/
theorem exs_cons (h1 : Ex g st ρ B { E with nx := fun ρ' B' => Exs g sts ρ' B' E }) : Exs g (st :: sts) ρ B E := by
  refine ⟨fun X hX => ?_⟩
  refine PSs.imp (pss_cons (h1.h X hX) (u := fun D σ H => ∃ ρ' B', Exs g sts ρ' B' E ∧ tEx g.T.K ρ' B' E D σ H) ⟨fun pins s σ H D I ⟨ρ', B', he, q⟩ => (he.h X hX).run pins s σ H D I q⟩) fun D σ H h => ?_
  exact tEx_seq h (fun _ _ _ z => z) fun ρ' B' p σ H q => ⟨ρ', B', p, q⟩
theorem exs_one (h1 : Ex g st ρ B E) : Exs g [st] ρ B E := ⟨fun X hX => pss_one (h1.h X hX)⟩
theorem exs_never (h : False) : Exs g sts ρ B E := h.elim
theorem Exs.mono {E' : En} (h : Exs g sts ρ B E) (h1 : ∀ ρ B, E.nx ρ B → E'.nx ρ B) (h2 : ∀ r B, E.rt r B → E'.rt r B) (h3 : ∀ ρ B, E.bk ρ B → E'.bk ρ B) (h4 : ∀ ρ B, E.ct ρ B → E'.ct ρ B) : Exs g sts ρ B E' :=
  ⟨fun X hX => PSs.imp (h.h X hX) fun D σ H ⟨c, F, R, q1, q2, q3, q4⟩ => ⟨c, F, R, q1.mono (Same.refl F) h1, q2.mono (Same.refl F) h2, q3.mono (Same.refl F) h3, q4.mono (Same.refl F) h4⟩⟩
theorem ex_pass (h : E.nx ρ B) : Ex g (.Pass pos) ρ B E := ⟨fun X hX => PS.imp ps_pass fun D σ H ⟨c, F, R, q1, _⟩ => q1 ρ B σ H F R (Same.refl F) h⟩
theorem ex_cont (h : E.ct ρ B) : Ex g (.Continue pos) ρ B E := ⟨fun X hX => PS.imp ps_continue fun D σ H ⟨c, F, R, q1, q2, q3, q4⟩ => q4 ρ B σ H F R (Same.refl F) h⟩
theorem ex_ret {r : Res} (he : EvR g e ρ B r B1) (h : E.rt r B1) : Ex g (.Return (some e) pos) ρ B E := ⟨fun X hX => PS.imp (ps_ret (he.h X hX)) fun D σ H ⟨c, F, R, q1, q2, _⟩ => ⟨c, F, R, fun v H' F' R' e' ok _ => q2 ρ B1 σ H' F' r v R' e' ok h⟩⟩
theorem ex_retN (h : E.rt (.d .non) B) : Ex g (.Return none pos) ρ B E := ⟨fun X hX => PS.imp ps_retN fun D σ H ⟨c, F, R, q1, q2, _⟩ => q2 ρ B σ H F _ _ R (Same.refl F) (ResOk.dat .non) h⟩
theorem ex_if {k : Bool} {as bs : List Stmt} (hc : Ts g e ρ B k B1) (ha : k = true → Exs g as ρ B1 E) (hb : k = false → Exs g bs ρ B1 E) : Ex g (.If e as bs pos) ρ B E := by
  refine ⟨fun X hX => ?_⟩
  have go : ∀ D σ H, tEx g.T.K ρ B E D σ H → ∃ c F, Rel g.T.K c ρ B σ H F ∧ ∀ H' F', Rel g.T.K c ρ B1 σ H' F' → Same F F' → tEx g.T.K ρ B1 E D σ H' := fun D σ H ⟨c, F, R, q1, q2, q3, q4⟩ =>
    ⟨c, F, R, fun H' F' R' e' => ⟨c, F', R', q1.mono e' fun _ _ z => z, q2.mono e' fun _ _ z => z, q3.mono e' fun _ _ z => z, q4.mono e' fun _ _ z => z⟩⟩
  cases k with
  | true => exact PS.imp (ps_if (hc.h X hX) ((ha rfl).h X hX) pss_never) fun D σ H h => let ⟨c, F, R, q⟩ := go D σ H h; ⟨c, F, R, fun H' F' R' e' => iteT (q H' F' R' e')⟩
  | false => exact PS.imp (ps_if (hc.h X hX) pss_never ((hb rfl).h X hX)) fun D σ H h => let ⟨c, F, R, q⟩ := go D σ H h; ⟨c, F, R, fun H' F' R' e' => iteF (q H' F' R' e')⟩
/-- an expression whose value is dropped -/
theorem ex_expr {r : Res} (he : EvR g e ρ B r B1) (h : E.nx ρ B1) (hs : ∀ env : Env, swapsWith e none pos.line env = pure false := by intro _; rfl) : Ex g (.Expr e pos) ρ B E :=
  ⟨fun X hX => PS.imp (ps_expr (he.h X hX) (hs X.env)) fun D σ H ⟨c, F, R, q1, q2, _⟩ => ⟨c, F, R, fun v H' F' R' e' ok _ => q1 ρ B1 σ H' F' R' e' h⟩⟩
theorem ex_doc {s j} {pos' : Pos} (h : E.nx ρ B) : Ex g (.Expr (.Constant (.str s) j pos) pos') ρ B E := ⟨fun X hX => PS.imp ps_doc fun D σ H ⟨c, F, R, q1, _⟩ => q1 ρ B σ H F R (Same.refl F) h⟩

/-! ### targets -/
/-- the result as a slot -/
def Res.sl : Res → Sl
  | .d x => .d x
  | .o ct => .o ct
theorem Rel.set {K : KT} {c : C0} {σ : L2.St} {H F : Hp} {r : Res} {v : V} (R : Rel K c ρ B σ H F) (ok : ResOk K c H F r v) (ap : Apart ρ σ r v) (i : Nat) : Rel K c (ρ.set i r.sl) B (σ.set i (some v)) H F := by
  have pick : ∀ (j : Nat) (s : Sl), (ρ.set i r.sl)[j]? = some s → (j = i ∧ s = r.sl ∧ (σ.set i (some v))[j]? = some (some v)) ∨ (j ≠ i ∧ ρ[j]? = some s ∧ (σ.set i (some v))[j]? = σ[j]?) := fun j s h => by
    by_cases hj : i = j
    · subst hj
      by_cases hi : i < ρ.length
      · rw [List.getElem?_set_self hi] at h
        rw [List.getElem?_set_self (by rw [← R.len]; exact hi)]
        exact .inl ⟨rfl, (Option.some.inj h).symm, rfl⟩
      · rw [List.getElem?_eq_none (by rw [List.length_set]; omega)] at h
        cases h
    · rw [List.getElem?_set_ne hj] at h
      exact .inr ⟨fun z => hj z.symm, h, List.getElem?_set_ne hj⟩
  refine ⟨by rw [List.length_set, List.length_set]; exact R.len, R.fr, R.st, R.tab, R.gr, R.dj, R.sub, R.bag, fun j x h => ?_, fun j ct h => ?_, fun j j' ct ct' p h1 h2 h3 h4 => ?_⟩
  · rcases pick j _ h with ⟨_, hs, hσ⟩ | ⟨_, h', hσ⟩
    · cases r with
      | d y =>
        cases hs
        exact ⟨v, hσ, ok⟩
      | o ct => cases hs
    · rw [hσ]
      exact R.dat j x h'
  · rcases pick j _ h with ⟨_, hs, hσ⟩ | ⟨_, h', hσ⟩
    · cases r with
      | d y => cases hs
      | o ct =>
        cases hs
        obtain ⟨p, rfl, h⟩ := ok
        exact ⟨p, hσ, h⟩
    · rw [hσ]
      exact R.own j ct h'
  · rcases pick j _ h1 with ⟨e1, hs, hσ⟩ | ⟨e1, h', hσ⟩
    · rcases pick j' _ h2 with ⟨e2, hs', hσ'⟩ | ⟨e2, h'', hσ'⟩
      · rw [e1, e2]
      · rw [hσ] at h3
        rw [hσ'] at h4
        cases r with
        | d y => cases hs
        | o ct0 => exact absurd (Option.some.inj (Option.some.inj h3)) (ap ct0 rfl j' ct' p h'' h4)
    · rcases pick j' _ h2 with ⟨e2, hs', hσ'⟩ | ⟨e2, h'', hσ'⟩
      · rw [hσ] at h3
        rw [hσ'] at h4
        cases r with
        | d y => cases hs'
        | o ct0 => exact absurd (Option.some.inj (Option.some.inj h4)) (ap ct0 rfl j ct p h' h3)
      · rw [hσ] at h3
        rw [hσ'] at h4
        exact R.sep j j' ct ct' p h' h'' h3 h4
/-- slots forgotten -/
def fgt (ρ : Rho) : List Nat → Rho
  | [] => ρ
  | v :: vs => (fgt ρ vs).set v .u
theorem Rel.fgt1 {K : KT} {c : C0} {σ : L2.St} {H F : Hp} (R : Rel K c ρ B σ H F) (i : Nat) : Rel K c (ρ.set i .u) B (σ.set i none) H F := by
  have pick : ∀ (j : Nat) (s : Sl), (ρ.set i .u)[j]? = some s → s = .u ∨ (j ≠ i ∧ ρ[j]? = some s ∧ (σ.set i none)[j]? = σ[j]?) := fun j s h => by
    by_cases hj : i = j
    · subst hj
      by_cases hi : i < ρ.length
      · rw [List.getElem?_set_self hi] at h
        exact .inl (Option.some.inj h).symm
      · rw [List.getElem?_eq_none (by rw [List.length_set]; omega)] at h
        cases h
    · rw [List.getElem?_set_ne hj] at h
      exact .inr ⟨fun z => hj z.symm, h, List.getElem?_set_ne hj⟩
  refine ⟨by rw [List.length_set, List.length_set]; exact R.len, R.fr, R.st, R.tab, R.gr, R.dj, R.sub, R.bag, fun j x h => ?_, fun j ct h => ?_, fun j j' ct ct' p h1 h2 h3 h4 => ?_⟩
  · rcases pick j _ h with hs | ⟨_, h', hσ⟩
    · cases hs
    · rw [hσ]; exact R.dat j x h'
  · rcases pick j _ h with hs | ⟨_, h', hσ⟩
    · cases hs
    · rw [hσ]; exact R.own j ct h'
  · rcases pick j _ h1 with hs | ⟨_, h', hσ⟩
    · cases hs
    · rcases pick j' _ h2 with hs | ⟨_, h'', hσ'⟩
      · cases hs
      · rw [hσ] at h3
        rw [hσ'] at h4
        exact R.sep j j' ct ct' p h' h'' h3 h4
theorem Rel.fgt {K : KT} {c : C0} {σ : L2.St} {H F : Hp} (R : Rel K c ρ B σ H F) : ∀ vs : List Nat, Rel K c (fgt ρ vs) B (wipe σ vs) H F
  | [] => R
  | v :: vs => (R.fgt vs).fgt1 v
theorem wipe_set {σ : L2.St} {i : Nat} {o : Option V} : ∀ {vs : List Nat}, i ∈ vs → wipe (σ.set i o) vs = wipe σ vs
  | v :: vs, h => by
    unfold wipe
    by_cases hv : i ∈ vs
    · rw [wipe_set hv]
    · have e : v = i := ((List.mem_cons.mp h).resolve_right hv).symm
      subst e
      have go : ∀ (vs : List Nat), v ∉ vs → wipe (σ.set v o) vs = (wipe σ vs).set v o := by
        intro vs
        induction vs with
        | nil => intro _; rfl
        | cons u us ih =>
          intro hu
          unfold wipe
          rw [ih fun z => hu (List.mem_cons_of_mem _ z), List.set_comm _ _ (fun z => hu (by rw [z]; exact List.mem_cons_self))]
      rw [go vs hv, List.set_set]
/-- a target takes x: the slots become ρ'; only those of is are touched -/
def tTg (K : KT) (ρ : Rho) (x : D) (ρ' : Rho) (is : List Nat) : TG := fun v σ H Q => ∃ c B F, Rel K c ρ B σ H F ∧ Rep K c.β F x v ∧ ∀ σ', Rel K c ρ' B σ' H F → (∀ vs : List Nat, (∀ i ∈ is, i ∈ vs) → wipe σ' vs = wipe σ vs) → Q σ' H
structure Tg (g : G) (tg : Expr) (ρ : Rho) (x : D) (ρ' : Rho) (is : List Nat) : Prop where
  h : ∀ X, At g X → PG X tg (tTg g.T.K ρ x ρ' is)
def tTgs (K : KT) (ρ : Rho) (xs : List D) (ρ' : Rho) (is : List Nat) : TGs := fun vs σ H Q => ∃ c B F, Rel K c ρ B σ H F ∧ RepAll K c.β F xs vs ∧ ∀ σ', Rel K c ρ' B σ' H F → (∀ vs : List Nat, (∀ i ∈ is, i ∈ vs) → wipe σ' vs = wipe σ vs) → Q σ' H
structure Tgs (g : G) (tgs : List Expr) (ρ : Rho) (xs : List D) (ρ' : Rho) (is : List Nat) : Prop where
  h : ∀ X, At g X → PGs X tgs (tTgs g.T.K ρ xs ρ' is)
theorem PG.imp {X : Cx} {e : Expr} {t t' : TG} (h : PG X e t) (w : ∀ v σ H Q, t' v σ H Q → t v σ H Q) : PG X e t' := ⟨fun pins s σ H v u Q I r q => h.run pins s σ H v u Q I r (w v σ H Q q)⟩
theorem PGs.imp {X : Cx} {e : List Expr} {t t' : TGs} (h : PGs X e t) (w : ∀ v σ H Q, t' v σ H Q → t v σ H Q) : PGs X e t' := ⟨fun pins s σ H v u Q I r q => h.run pins s σ H v u Q I r (w v σ H Q q)⟩
/-- a name that is stored -/
structure St1 (g : G) (i : Nat) (n : Str) : Prop where
  ix : g.N[i]? = some n
  loc : Loc g.sc n
  fn : g.cf n = true ∨ g.sc.names.lookup n = some .local
theorem tg_name {i : Nat} (s : St1 g i n) : Tg g (.Name n pos) ρ x (ρ.set i (.d x)) [i] :=
  ⟨fun X hX => PG.imp (pg_name (X := X) (i := i) (by rw [hX.hN]; exact hX.nd) (by rw [hX.hN]; exact s.ix) (by rw [hX.hs]; exact s.loc) (s.fn.imp (fun h => hX.cell _ h) (fun h => by rw [hX.hs]; exact h))) fun v σ H Q ⟨c, B, F, R, hv, q⟩ =>
    q _ (R.set (r := .d x) hv apart_d i) fun vs h => wipe_set (h i List.mem_cons_self)⟩
theorem tgs_nil : Tgs g [] ρ [] ρ [] := ⟨fun X hX => PGs.imp pgs_nil fun v σ H Q ⟨c, B, F, R, hv, q⟩ => by
  cases hv
  exact ⟨rfl, q σ R fun _ _ => rfl⟩⟩
theorem tgs_cons {t : Expr} {ts : List Expr} {xs : List D} {ρ1 ρ2 : Rho} {is js : List Nat} (h1 : Tg g t ρ x ρ1 is) (h2 : Tgs g ts ρ1 xs ρ2 js) (hs : ∀ env : Env, (assignEach (t :: ts) env).map (·.2) = assign t env :: (assignEach ts env).map (·.2) := by intro _; rfl) : Tgs g (t :: ts) ρ (x :: xs) ρ2 (is ++ js) :=
  ⟨fun X hX => PGs.imp (pgs_cons (h1.h X hX) (h2.h X hX) (hs X.env)) fun vs σ H Q ⟨c, B, F, R, hv, q⟩ => by
    cases hv with
    | cons h t =>
      exact ⟨_, _, rfl, c, B, F, R, h, fun σ1 R1 w1 => ⟨c, B, F, R1, t, fun σ2 R2 w2 => q σ2 R2 fun vs hv => (w2 vs fun i hi => hv i (List.mem_append_right _ hi)).trans (w1 vs fun i hi => hv i (List.mem_append_left _ hi))⟩⟩⟩
theorem tg_tup {ts : List Expr} {xs : List D} {ρ' : Rho} {is : List Nat} {j : Nat} (h : Tgs g ts ρ xs ρ' is) (hn : ∀ env : Env, (assignEach ts env).length = xs.length := by intro _; rfl) (hst : ∀ env : Env, (assignEach ts env).findIdx? (·.1) = none := by intro _; rfl) : Tg g (.Tuple ts j pos) ρ (.tup xs) ρ' is :=
  ⟨fun X hX => PG.imp (pg_tup hX.calm (h.h X hX) (hn X.env) (hst X.env)) fun v σ H Q ⟨c, B, F, R, hv, q⟩ => by
    cases hv with
    | tup h1 h2 h3 => exact ⟨_, _, rfl, by rw [hX.hK]; exact Same.seqT R.sub h1, h3.length.symm, c, B, F, R, h3, q⟩⟩

/-- name = e -/
theorem ex_setR {r : Res} {i : Nat} {pos' : Pos} (s : St1 g i n) (he : EvR g e ρ B r B1) (h : E.nx (ρ.set i r.sl) B1) (hs : ∀ env : Env, env.scope = g.sc → swapsWith e (some (.Name n pos')) pos.line env = pure false := by intro _ _; rfl) : Ex g (.Assign [.Name n pos'] e pos) ρ B E :=
  ⟨fun X hX => PS.imp (ps_set (X := X) (i := i) (by rw [hX.hN]; exact hX.nd) (by rw [hX.hN]; exact s.ix) (by rw [hX.hs]; exact s.loc) (he.h X hX) (hs X.env hX.hs) (s.fn.imp (fun h => hX.cell _ h) (fun h => by rw [hX.hs]; exact h))) fun D σ H ⟨c, F, R, q1, _⟩ =>
    ⟨c, F, R, fun v H' F' R' e' ok ap => q1 _ B1 _ H' F' (R'.set ok ap i) e' h⟩⟩
theorem ex_set {i : Nat} {pos' : Pos} (s : St1 g i n) (he : Ev g e ρ B x B1) (h : E.nx (ρ.set i (.d x)) B1) (hs : ∀ env : Env, env.scope = g.sc → swapsWith e (some (.Name n pos')) pos.line env = pure false := by intro _ _; rfl) : Ex g (.Assign [.Name n pos'] e pos) ρ B E := ex_setR s he h hs
/-- target = e -/
theorem ex_asg {tg : Expr} {ρ' : Rho} {is : List Nat} (he : Ev g e ρ B x B1) (ht : Tg g tg ρ x ρ' is) (h : E.nx ρ' B1) (hs : ∀ env : Env, swapsWithSole [tg] e pos.line env = pure false := by intro _; rfl) (hw : ∀ env : Env, swappedStores [tg] e env = pure none := by intro _; rfl)
    (h1 : ∀ env : Env, (assignEach [tg] env).map (·.2) = [assign tg env] := by intro _; rfl) : Ex g (.Assign [tg] e pos) ρ B E :=
  ⟨fun X hX => PS.imp (ps_asg (he.h X hX) (ht.h X hX) (hs X.env) (hw X.env) (h1 X.env)) fun D σ H ⟨c, F, R, q1, _⟩ => ⟨c, F, R, fun v H' F' R' e' ok _ => ⟨c, B1, F', R', ok, fun σ' R2 _ => q1 ρ' B1 σ' H' F' R2 e' h⟩⟩⟩
/-- a, b = x, y -/
theorem ex_par {i j : Nat} {n2 : Str} {px py pt : Pos} {kt k2 pt2} (s1 : St1 g i n) (s2 : St1 g j n2) (hij : i ≠ j) (l1 : g.sc.names.lookup n = some .local) (l2 : g.sc.names.lookup n2 = some .local) (ha : Evs g [a, b] ρ B [x, y] B1) (h : E.nx ((ρ.set i (.d x)).set j (.d y)) B1)
    (hw : ∀ env : Env, env.scope = g.sc → swappedStores [.Tuple [.Name n px, .Name n2 py] kt pt] (.Tuple [a, b] k2 pt2) env = pure (some [n, n2]))
    (hs : ∀ env : Env, swapsWithSole [.Tuple [.Name n px, .Name n2 py] kt pt] (.Tuple [a, b] k2 pt2) pos.line env = pure false := by intro _; rfl) : Ex g (.Assign [.Tuple [.Name n px, .Name n2 py] kt pt] (.Tuple [a, b] k2 pt2) pos) ρ B E :=
  ⟨fun X hX => PS.imp (ps_par (X := X) hX.calm (by rw [hX.hN]; exact hX.nd) (by rw [hX.hN]; exact s1.ix) (by rw [hX.hN]; exact s2.ix) hij (by rw [hX.hs]; exact l1) (by rw [hX.hs]; exact l2) (ha.h X hX) (hw X.env hX.hs) (hs X.env)) fun D σ H ⟨c, F, R, q1, _⟩ =>
    ⟨c, F, R, fun vs H' F' R' e' hv => by
      obtain ⟨v, w, rfl, h1, h2⟩ := all2 hv
      exact ⟨v, w, rfl, q1 _ B1 _ H' F' ((R'.set (r := .d x) h1 apart_d i).set (r := .d y) h2 apart_d j) e' h⟩⟩⟩
end
end PD
namespace PD
open PySem PySem.Spec PyProof.Rows L2 RZ

/-! ### what is walked -/
structure WalkD (K : PySem.W.Frag) (β : Option Addr) (J : It) (ds : List D) (F1 : Hp) : Prop where
  goes : ∀ i H, i < ds.length → Same F1 H → J.go i H
  stops : ∀ H, Same F1 H → J.stop ds.length H
  yields : ∀ i H x H', i < ds.length → Same F1 H → J.yld i H x H' → ∃ d, ds[i]? = some d ∧
    ((H' = H ∧ Rep K β F1 d x) ∨ ∃ T vs ds', x = .ref T ∧ H T = none ∧ H' = upd H T (.tup vs) ∧ vs.length ≤ sizeLine ∧ d = .tup ds' ∧ RepAll K β F1 ds' vs)
structure ItD (g : G) (tg iter : Expr) (ρ : Rho) (B : Bag) (ds : List D) (B' : Bag) : Prop where
  h : ∀ X, At g X → ∃ wi : TI, PI X tg iter wi ∧ ∀ (c : C0) (σ : L2.St) (H F : Hp) (Re : It → Hp → Prop), Rel g.T.K c ρ B σ H F →
    (∀ J H1 F1, Rel g.T.K c ρ B' σ H1 F1 → Same F F1 → WalkD g.T.K c.β J ds F1 → Re J H1) → wi σ H Re
section
variable {K : KT} {c : C0} {ρ : Rho} {B B' : Bag} {σ : L2.St} {H H' F F1 : Hp} {ds : List D} {J : It}
theorem walk_step (w : WalkD K c.β J ds F1) (R : Rel K c ρ B σ H F) (e : Same F1 F) {i : Nat} {x : V} (hi : i < ds.length) (y : J.yld i H x H') : ∃ d F', ds[i]? = some d ∧ Rel K c ρ B σ H' F' ∧ Same F F' ∧ Rep K c.β F' d x := by
  obtain ⟨d, hd, h⟩ := w.yields i H x H' hi (e.trans R.sub) y
  rcases h with ⟨rfl, h⟩ | ⟨T, vs, ds', rfl, nT, rfl, hl, rfl, h⟩
  · exact ⟨d, F, hd, R, Same.refl F, h.mono e⟩
  · obtain ⟨R2, e2⟩ := R.new (o := .tup vs) nT
    exact ⟨_, _, hd, R2, e2, .tup (.inl (.inl upd_same)) hl (h.mono (e.trans e2))⟩
theorem walkD_list {a : Addr} {vs : List V} (h : SqL K F1 a vs) (hr : RepAll K c.β F1 ds vs) : WalkD K c.β (Itl K a) ds F1 :=
  ⟨fun i H hi e => by
    have hl := hr.length
    exact ⟨vs, vs[i]'(by omega), e.seq h, by simp [show i < vs.length by omega]⟩, fun H e => ⟨vs, e.seq h, by rw [hr.length]; exact Nat.le_refl _⟩, fun i H x H' hi e y => by
    obtain ⟨rfl, y⟩ := y
    obtain ⟨d, hd, r⟩ := hr.get' (y vs (e.seq h))
    exact ⟨d, hd, .inl ⟨rfl, r⟩⟩⟩
theorem walkD_tup {a : Addr} {vs : List V} (h : SqT K F1 a vs) (hr : RepAll K c.β F1 ds vs) : WalkD K c.β (Itt K a) ds F1 :=
  ⟨fun i H hi e => by
    have hl := hr.length
    exact ⟨vs, vs[i]'(by omega), Same.seqT e h, by simp [show i < vs.length by omega]⟩, fun H e => ⟨vs, Same.seqT e h, by rw [hr.length]; exact Nat.le_refl _⟩, fun i H x H' hi e y => by
    obtain ⟨rfl, y⟩ := y
    obtain ⟨d, hd, r⟩ := hr.get' (y vs (Same.seqT e h))
    exact ⟨d, hd, .inl ⟨rfl, r⟩⟩⟩
def rgD (lo : Int) (n : Nat) : List D := (List.range n).map fun i => .int (lo + (i : Nat))
theorem rgD_length (lo : Int) (n : Nat) : (rgD lo n).length = n := by unfold rgD; rw [List.length_map, List.length_range]
theorem rgD_get {lo : Int} {n i : Nat} (h : i < n) : (rgD lo n)[i]? = some (.int (lo + (i : Nat))) := by
  unfold rgD
  rw [List.getElem?_map, List.getElem?_range h]
  rfl
theorem walkD_range {lo : Int} {n : Nat} : WalkD K c.β (Itr lo n) (rgD lo n) F1 :=
  ⟨fun i H hi e => by rw [rgD_length] at hi; exact hi, fun H e => by rw [rgD_length]; exact Nat.le_refl n, fun i H x H' hi e y => by
    obtain ⟨rfl, rfl⟩ := y
    rw [rgD_length] at hi
    exact ⟨_, rgD_get hi, .inl ⟨rfl, .int _⟩⟩⟩
def zipD (xs ys : List D) : List D := (xs.zip ys).map fun p => .tup [p.1, p.2]
theorem zipD_length (xs ys : List D) : (zipD xs ys).length = min xs.length ys.length := by unfold zipD; rw [List.length_map, List.length_zip]
theorem zipD_get {xs ys : List D} {i : Nat} {x y : D} (h1 : xs[i]? = some x) (h2 : ys[i]? = some y) : (zipD xs ys)[i]? = some (.tup [x, y]) := by
  unfold zipD
  rw [List.getElem?_map, (List.getElem?_zip_eq_some (z := (x, y))).mpr ⟨h1, h2⟩]
  rfl
theorem len2 : (2 : Nat) ≤ sizeLine := by rw [sizeLine_eq]; decide
theorem walkD_zipL {a b : Addr} {vs ws : List V} {ys : List D} (h : SqL K F1 a vs) (hr : RepAll K c.β F1 ds vs) (h' : SqL K F1 b ws) (hr' : RepAll K c.β F1 ys ws) : WalkD K c.β (Itz K a b) (zipD ds ys) F1 :=
  ⟨fun i H hi e => by
    have hl := hr.length
    have hl' := hr'.length
    rw [zipD_length] at hi
    exact ⟨vs, ws, vs[i]'(by omega), ws[i]'(by omega), e.seq h, e.seq h', by simp [show i < vs.length by omega], by simp [show i < ws.length by omega]⟩, fun H e => ⟨vs, ws, e.seq h, e.seq h', by rw [zipD_length, hr.length, hr'.length]; omega⟩, fun i H x H' hi e y => by
    obtain ⟨T, x1, x2, rfl, nT, rfl, f1, f2⟩ := y
    obtain ⟨d1, hd1, r1⟩ := hr.get' (f1 vs (e.seq h))
    obtain ⟨d2, hd2, r2⟩ := hr'.get' (f2 ws (e.seq h'))
    exact ⟨_, zipD_get hd1 hd2, .inr ⟨T, _, _, rfl, nT, rfl, len2, rfl, .cons r1 (.cons r2 .nil)⟩⟩⟩
theorem walkD_zipT {a b : Addr} {vs ws : List V} {ys : List D} (h : SqT K F1 a vs) (hr : RepAll K c.β F1 ds vs) (h' : SqT K F1 b ws) (hr' : RepAll K c.β F1 ys ws) : WalkD K c.β (ItzT K a b) (zipD ds ys) F1 :=
  ⟨fun i H hi e => by
    have hl := hr.length
    have hl' := hr'.length
    rw [zipD_length] at hi
    exact ⟨vs, ws, vs[i]'(by omega), ws[i]'(by omega), Same.seqT e h, Same.seqT e h', by simp [show i < vs.length by omega], by simp [show i < ws.length by omega]⟩, fun H e => ⟨vs, ws, Same.seqT e h, Same.seqT e h', by rw [zipD_length, hr.length, hr'.length]; omega⟩, fun i H x H' hi e y => by
    obtain ⟨T, x1, x2, rfl, nT, rfl, f1, f2⟩ := y
    obtain ⟨d1, hd1, r1⟩ := hr.get' (f1 vs (Same.seqT e h))
    obtain ⟨d2, hd2, r2⟩ := hr'.get' (f2 ws (Same.seqT e h'))
    exact ⟨_, zipD_get hd1 hd2, .inr ⟨T, _, _, rfl, nT, rfl, len2, rfl, .cons r1 (.cons r2 .nil)⟩⟩⟩
def enD (xs : List D) : List D := xs.zipIdx.map fun p => .tup [.int (p.2 : Nat), p.1]
theorem enD_length (xs : List D) : (enD xs).length = xs.length := by unfold enD; rw [List.length_map, List.length_zipIdx]
theorem enD_get {xs : List D} {i : Nat} {x : D} (h : xs[i]? = some x) : (enD xs)[i]? = some (.tup [.int (i : Nat), x]) := by
  unfold enD
  rw [List.getElem?_map, List.getElem?_zipIdx, h]
  simp
theorem walkD_enumL {a : Addr} {vs : List V} (h : SqL K F1 a vs) (hr : RepAll K c.β F1 ds vs) : WalkD K c.β (Ite K a) (enD ds) F1 :=
  ⟨fun i H hi e => by
    have hl := hr.length
    rw [enD_length] at hi
    exact ⟨vs, vs[i]'(by omega), e.seq h, by simp [show i < vs.length by omega]⟩, fun H e => ⟨vs, e.seq h, by rw [enD_length, hr.length]; exact Nat.le_refl _⟩, fun i H x H' hi e y => by
    obtain ⟨T, x1, rfl, nT, rfl, f1⟩ := y
    obtain ⟨d1, hd1, r1⟩ := hr.get' (f1 vs (e.seq h))
    exact ⟨_, enD_get hd1, .inr ⟨T, _, _, rfl, nT, rfl, len2, rfl, .cons (.int _) (.cons r1 .nil)⟩⟩⟩
end

section
variable {g : G} {ρ : Rho} {B B1 B2 B3 : Bag} {a b e tg iter : Expr} {pos p tpos : Pos} {x y z d : D} {es elts : List Expr} {ds : List D} {n : Str} {kk : Nat}
theorem it_seq (he : Ev g e ρ B x B1) (hx : x.seq = some ds) : ItD g tg e ρ B ds B1 := by
  refine ⟨fun X hX => ?_⟩
  cases x with
  | lst xs =>
    cases hx
    refine ⟨_, pi_list (he.h X hX), fun c σ H F Re R q => ⟨c, F, R, fun v H' F' R' e' ok _ => ?_⟩⟩
    cases ok with
    | lst h1 h2 h3 => exact ⟨_, rfl, ⟨_, SqL.sub R'.sub h1⟩, q _ H' F' R' e' (by rw [hX.hK]; exact walkD_list (.inl (.inl h1)) h3)⟩
  | tup xs =>
    cases hx
    refine ⟨_, pi_tup (he.h X hX), fun c σ H F Re R q => ⟨c, F, R, fun v H' F' R' e' ok _ => ?_⟩⟩
    cases ok with
    | tup h1 h2 h3 => exact ⟨_, rfl, ⟨_, by rw [hX.hK]; exact Same.seqT R'.sub h1⟩, q _ H' F' R' e' (by rw [hX.hK]; exact walkD_tup h1 h3)⟩
  | _ => cases hx
theorem it_range1 {m : Nat} (hg : Glb g "range") (hm : g.T.mg "range" = none) (ha : Ev g a ρ B (.int (m : Nat)) B1) (hl : m ≤ 1000000) (hs : ∀ env : Env, starEach [a] env = [(false, eval a env)] := by intro _; rfl) : ItD g tg (.Call (.Name "range" p) [a] [] pos) ρ B (rgD 0 m) B1 := by
  refine ⟨fun X hX => ?_⟩
  refine ⟨_, pi_range1 (hg.at hX) (by rw [hX.hm]; exact hm) ((evs_cons ha evs_nil hs).h X hX) (hs X.env), fun c σ H F Re R q => ⟨c, F, R, fun vs H' F' R' e' h => ?_⟩⟩
  obtain ⟨v, rfl, h1⟩ := all1 h
  cases h1
  exact ⟨_, rfl, by omega, by omega, q _ H' F' R' e' (by rw [show ((m : Nat) : Int).toNat = m from Int.toNat_natCast m]; exact walkD_range)⟩
theorem it_range2 {i j : Int} (hg : Glb g "range") (hm : g.T.mg "range" = none) (ha : Ev g a ρ B (.int i) B1) (hb : Ev g b ρ B1 (.int j) B2) (h1 : -1000000 ≤ i ∧ i ≤ 1000000) (h2 : -1000000 ≤ j ∧ j ≤ 1000000) (hs : ∀ env : Env, starEach [a, b] env = [(false, eval a env), (false, eval b env)] := by intro _; rfl) (hs2 : ∀ env : Env, starEach [b] env = [(false, eval b env)] := by intro _; rfl) : ItD g tg (.Call (.Name "range" p) [a, b] [] pos) ρ B (rgD i (j - i).toNat) B2 := by
  refine ⟨fun X hX => ?_⟩
  refine ⟨_, pi_range2 (hg.at hX) (by rw [hX.hm]; exact hm) ((evs_cons ha (evs_cons hb evs_nil hs2) fun env => by rw [hs, hs2]).h X hX) (hs X.env) (hs2 X.env), fun c σ H F Re R q => ⟨c, F, R, fun vs H' F' R' e' h => ?_⟩⟩
  obtain ⟨v, w, rfl, h3, h4⟩ := all2 h
  cases h3
  cases h4
  exact ⟨_, _, rfl, ⟨by omega, by omega, by omega, by omega⟩, q _ H' F' R' e' walkD_range⟩
theorem it_zipL {xs ys : List D} (hg : Glb g "zip") (hm : g.T.mg "zip" = none) (ha : Ev g a ρ B (.lst xs) B1) (hb : Ev g b ρ B1 (.lst ys) B2) (hs : ∀ env : Env, starEach [a, b] env = (false, eval a env) :: starEach [b] env := by intro _; rfl) (hpl : ∀ env : Env, (backTo pos (starEach [b] env)).any (·.1) = false := by intro _; rfl)
    (hs2 : ∀ env : Env, starEach [b] env = (false, eval b env) :: starEach [] env := by intro _; rfl) : ItD g (.Tuple elts kk tpos) (.Call (.Name "zip" p) [a, b] [] pos) ρ B (zipD xs ys) B2 := by
  refine ⟨fun X hX => ?_⟩
  refine ⟨_, pi_zipA (hg.at hX) (by rw [hX.hm]; exact hm) ((evs_cons ha (evs_cons hb evs_nil hs2) hs).h X hX) (hs X.env) (hpl X.env), fun c σ H F Re R q => ⟨c, F, R, fun vs H' F' R' e' h => ?_⟩⟩
  obtain ⟨v, w, rfl, h3, h4⟩ := all2 h
  cases h3 with
  | lst u1 u2 u3 =>
    cases h4 with
    | lst w1 w2 w3 => exact ⟨_, _, _, _, rfl, .inl ⟨SqL.sub R'.sub u1, SqL.sub R'.sub w1, q _ H' F' R' e' (by rw [hX.hK]; exact walkD_zipL (.inl (.inl u1)) u3 (.inl (.inl w1)) w3)⟩⟩
theorem it_zipT {xs ys : List D} (hg : Glb g "zip") (hm : g.T.mg "zip" = none) (ha : Ev g a ρ B (.tup xs) B1) (hb : Ev g b ρ B1 (.tup ys) B2) (hs : ∀ env : Env, starEach [a, b] env = (false, eval a env) :: starEach [b] env := by intro _; rfl) (hpl : ∀ env : Env, (backTo pos (starEach [b] env)).any (·.1) = false := by intro _; rfl)
    (hs2 : ∀ env : Env, starEach [b] env = (false, eval b env) :: starEach [] env := by intro _; rfl) : ItD g (.Tuple elts kk tpos) (.Call (.Name "zip" p) [a, b] [] pos) ρ B (zipD xs ys) B2 := by
  refine ⟨fun X hX => ?_⟩
  refine ⟨_, pi_zipA (hg.at hX) (by rw [hX.hm]; exact hm) ((evs_cons ha (evs_cons hb evs_nil hs2) hs).h X hX) (hs X.env) (hpl X.env), fun c σ H F Re R q => ⟨c, F, R, fun vs H' F' R' e' h => ?_⟩⟩
  obtain ⟨v, w, rfl, h3, h4⟩ := all2 h
  cases h3 with
  | tup u1 u2 u3 =>
    cases h4 with
    | tup w1 w2 w3 => exact ⟨_, _, _, _, rfl, .inr ⟨by rw [hX.hK]; exact Same.seqT R'.sub u1, by rw [hX.hK]; exact Same.seqT R'.sub w1, q _ H' F' R' e' (by rw [hX.hK]; exact walkD_zipT u1 u3 w1 w3)⟩⟩
theorem it_enumL {xs : List D} (hg : Glb g "enumerate") (hm : g.T.mg "enumerate" = none) (ha : Ev g a ρ B (.lst xs) B1) (hs : ∀ env : Env, starEach [a] env = [(false, eval a env)] := by intro _; rfl) : ItD g (.Tuple elts kk tpos) (.Call (.Name "enumerate" p) [a] [] pos) ρ B (enD xs) B1 := by
  refine ⟨fun X hX => ?_⟩
  refine ⟨_, pi_enum (hg.at hX) (by rw [hX.hm]; exact hm) ((evs_cons ha evs_nil hs).h X hX) (hs X.env), fun c σ H F Re R q => ⟨c, F, R, fun vs H' F' R' e' h => ?_⟩⟩
  obtain ⟨v, rfl, h3⟩ := all1 h
  cases h3 with
  | lst u1 u2 u3 => exact ⟨_, _, rfl, SqL.sub R'.sub u1, q _ H' F' R' e' (by rw [hX.hK]; exact walkD_enumL (.inl (.inl u1)) u3)⟩

/-! ### for -/
theorem ex_for {body : List Stmt} {E : En} (hi : ItD g tg iter ρ B ds B1) (J : Nat → Rho → Bag → Prop) (h0 : J 0 ρ B1)
    (hs : ∀ i d ρ' B', ds[i]? = some d → J i ρ' B' → ∃ ρ'' is, Tg g tg ρ' d ρ'' is ∧ Exs g body ρ'' B' ⟨J (i + 1), E.rt, E.nx, J (i + 1)⟩) (hd : ∀ ρ' B', J ds.length ρ' B' → E.nx ρ' B')
    (hf : ∀ (env : Env) x, foldedSetIterable iter env x = pure x := by intro _ _; rfl) : Ex g (.For tg iter body [] pos) ρ B E := by
  refine ⟨fun X hX => ?_⟩
  obtain ⟨wi, pi, qi⟩ := hi.h X hX
  have pg : PG X tg (fun v σ H Q => ∃ ρ' d ρ'' is, Tg g tg ρ' d ρ'' is ∧ tTg g.T.K ρ' d ρ'' is v σ H Q) := ⟨fun pins s σ H v u Q I r ⟨ρ', d, ρ'', is, ht, q⟩ => (ht.h X hX).run pins s σ H v u Q I r q⟩
  have pb : PSs X body (fun D σ H => ∃ ρ' B' E', Exs g body ρ' B' E' ∧ tEx g.T.K ρ' B' E' D σ H) := ⟨fun pins s σ H D I ⟨ρ', B', E', hb, q⟩ => (hb.h X hX).run pins s σ H D I q⟩
  refine PS.imp (ps_for hX.own hX.calm pi pg pb (hf X.env)) fun D σ H ⟨c, F, R, q1, q2, q3, q4⟩ => ?_
  refine qi c σ H F _ R fun J1 H1 F1 R1 e1 w => ?_
  refine ⟨fun i m σ' H' => m = ds.length - i ∧ i ≤ ds.length ∧ ∃ ρ' B' F', Rel g.T.K c ρ' B' σ' H' F' ∧ Same F1 F' ∧ J i ρ' B', ⟨_, rfl, Nat.zero_le _, ρ, B1, F1, R1, Same.refl F1, h0⟩, ?_⟩
  rintro i m σ' H' ⟨rfl, hle, ρ', B', F', R', e', hJ⟩
  by_cases hlt : i < ds.length
  · refine .inr ⟨w.goes i H' hlt (e'.trans R'.sub), fun σ2 H2 => ∃ ρ2 B2 F2, Rel g.T.K c ρ2 B2 σ2 H2 F2 ∧ Same F1 F2 ∧ J (i + 1) ρ2 B2, fun σ2 H2 ⟨ρ2, B2, F2, R2, e2, h2⟩ => ⟨ds.length - (i + 1), by omega, rfl, hlt, ρ2, B2, F2, R2, e2, h2⟩, fun v H2 y => ?_⟩
    obtain ⟨d, F2, hd, R2, e2, hrep⟩ := walk_step w R' e' hlt y
    obtain ⟨ρ'', is, ht, hb⟩ := hs i d ρ' B' hd hJ
    refine ⟨ρ', d, ρ'', is, ht, c, B', F2, R2, hrep, fun σ3 R3 _ => ⟨ρ'', B', _, hb, c, F2, R3, ?_, ?_, ?_, ?_⟩⟩
    · exact fun ρ4 B4 σ4 H4 F4 R4 e4 h4 => ⟨ρ4, B4, F4, R4, (e'.trans e2).trans e4, h4⟩
    · exact q2.mono ((e1.trans e').trans e2) fun _ _ z => z
    · exact q1.mono ((e1.trans e').trans e2) fun _ _ z => z
    · exact fun ρ4 B4 σ4 H4 F4 R4 e4 h4 => ⟨ρ4, B4, F4, R4, (e'.trans e2).trans e4, h4⟩
  · have hie : i = ds.length := by omega
    subst hie
    exact .inl ⟨w.stops H' (e'.trans R'.sub), q1 ρ' B' σ' H' F' R' (e1.trans e') (hd ρ' B' hJ)⟩

/-! ### list comprehensions -/
theorem wipe_sub {σ : L2.St} {vs : List Nat} : ∀ {us : List Nat}, (∀ u ∈ us, u ∈ vs) → wipe (wipe σ us) vs = wipe σ vs
  | [], _ => rfl
  | u :: us, h => by
    show wipe ((wipe σ us).set u none) vs = _
    rw [wipe_set (h u List.mem_cons_self)]
    exact wipe_sub fun w hw => h w (List.mem_cons_of_mem _ hw)
theorem wipe_wipe {σ : L2.St} {vs : List Nat} : wipe (wipe σ vs) vs = wipe σ vs := wipe_sub fun _ h => h
/-- own things out of sight -/
def Sl.noOwn : Sl → Sl
  | .o _ => .u
  | s => s
def noOwn (ρ : Rho) : Rho := ρ.map Sl.noOwn
theorem noOwn_d {ρ : Rho} {i : Nat} {x : D} (h : (noOwn ρ)[i]? = some (.d x)) : ρ[i]? = some (.d x) := by
  unfold noOwn at h
  rw [List.getElem?_map] at h
  obtain ⟨s, h1, h2⟩ := Option.map_eq_some_iff.mp h
  cases s with
  | d y => cases h2; exact h1
  | _ => cases h2
theorem noOwn_o {ρ : Rho} {i : Nat} {ct : Ct} (h : (noOwn ρ)[i]? = some (.o ct)) : False := by
  unfold noOwn at h
  rw [List.getElem?_map] at h
  obtain ⟨s, h1, h2⟩ := Option.map_eq_some_iff.mp h
  cases s <;> cases h2
section
variable {K : KT} {c : C0} {σ σ' : L2.St} {H H' F F' : Hp}
theorem Rel.enter (R : Rel K c ρ B σ H F) : Rel K ⟨c.β, H, F⟩ (noOwn ρ) B σ H F where
  len := by unfold noOwn; rw [List.length_map]; exact R.len
  fr := fun b o _ _ h => h
  st := fun b h => h
  tab := R.tab
  gr := Same.refl F
  dj := fun b _ h => h
  sub := R.sub
  bag := fun a h => ⟨(R.bag a h).1, (by show H a ≠ none; rw [(R.bag a h).1]; exact fun z => nomatch z), R.F_bag h⟩
  dat := fun i x h => R.dat i x (noOwn_d h)
  own := fun i ct h => (noOwn_o h).elim
  sep := fun i j ct ct' p h => (noOwn_o h).elim
theorem Rel.leave {ρ' : Rho} {B' : Bag} (R : Rel K c ρ B σ H F) (R' : Rel K ⟨c.β, H, F⟩ ρ' B' σ' H' F') : Rel K c ρ B' σ H' F' :=
  rel_call R R'.fr R'.st R'.tab R'.gr R'.dj R'.sub fun a h => (R'.bag a h).1
end
/-- a thing that no slot holds is written -/
theorem Rel.wr {K : KT} {c : C0} {σ : L2.St} {H F : Hp} {p : Addr} {o : HO} (R : Rel K c ρ B σ H F) (wt : ∃ u, H p = some u ∧ HO.pl u = true) (n0 : c.H0 p = none) (nF : F p = none) (ap : ∀ (i : Nat) (ct : Ct) (q : Addr), ρ[i]? = some (.o ct) → σ[i]? = some (some (.ref q)) → q ≠ p) : Rel K c ρ B σ (upd H p o) F where
  len := R.len
  fr := fun b u hb hu h => by rw [upd_ne (ne_of_none h n0)]; exact R.fr b u hb hu h
  st := fun b h => by
    by_cases hb : b = p
    · rw [hb, upd_same]; exact fun z => nomatch z
    · rw [upd_ne hb]; exact R.st b h
  tab := by
    obtain ⟨u, h1, h2⟩ := wt
    exact R.tab.but h1 (HO.pl_nt h2).1 (HO.pl_nt h2).2 rfl
  gr := R.gr
  dj := R.dj
  sub := fun b u h => by rw [upd_ne (ne_of_none h nF)]; exact R.sub b u h
  bag := fun a h => ⟨by rw [upd_ne (fun z => (R.bag a h).2.1 (by rw [z]; exact n0))]; exact (R.bag a h).1, (R.bag a h).2⟩
  dat := R.dat
  own := fun i ct h => by
    obtain ⟨q, h1, ⟨ho, h2, h3⟩, h4, h5⟩ := R.own i ct h
    exact ⟨q, h1, ⟨ho, by rw [upd_ne (ap i ct q h h1)]; exact h2, h3⟩, h4, h5⟩
  sep := R.sep
inductive LcRun (S : D → Bag → Option D → Bag → Prop) : List D → Bag → List D → Bag → Prop
  | nil {B : Bag} : LcRun S [] B [] B
  | keep {d y : D} {ds out : List D} {B B1 B2 : Bag} : S d B (some y) B1 → LcRun S ds B1 out B2 → LcRun S (d :: ds) B (y :: out) B2
  | drop {d : D} {ds out : List D} {B B1 B2 : Bag} : S d B none B1 → LcRun S ds B1 out B2 → LcRun S (d :: ds) B out B2
/-- a clause's tests -/
structure TsL (g : G) (ifs : List Expr) (ρ : Rho) (B : Bag) (b : Bool) (B' : Bag) : Prop where
  h : ∀ X, At g X → PTs X ifs (tTs g.T.K ρ B b B')
theorem PTs.imp {X : Cx} {e : List Expr} {t t' : TT} (h : PTs X e t) (w : ∀ σ H Q, t' σ H Q → t σ H Q) : PTs X e t' := ⟨fun pins s σ H Q I q => h.run pins s σ H Q I (w σ H Q q)⟩
theorem tsl_nil : TsL g [] ρ B true B := ⟨fun X hX => PTs.imp pts_nil fun σ H Q ⟨c, F, R, q⟩ => q H F R (Same.refl F)⟩
theorem tsl_one {k : Bool} (h : Ts g e ρ B k B1) : TsL g [e] ρ B k B1 := ⟨fun X hX => pts_one (h.h X hX)⟩
def blkG (g : G) (scope : Scope) : G := ⟨g.T, g.N, relS scope g.sc, g.k, fun x => scope.names.lookup x == some .cell, none⟩
theorem At.blk {X : Cx} (hX : At g X) (scope : Scope) (s : Shared) (H : Hp) (C : Addr) (cl : List (Str × Addr)) (fp : List Addr) : At (blkG g scope) (X.blk s H scope (compEnvC scope cl C X.env) fp) where
  hP := hX.hP
  hw := hX.hw
  hK := hX.hK
  hm := hX.hm
  hb := hX.hb
  hN := hX.hN
  hs := by show relS scope X.env.scope = relS scope g.sc; rw [hX.hs]
  nd := hX.nd
  calm := hX.calm
  cls := fun _ h => (nomatch h)
  room := hX.room
  cell := fun x h => h
  own := PassesOwn.never
/-- what a turn of a comprehension does -/
def LcTurn (g : G) (tg elt : Expr) (ifs : List Expr) (ρ : Rho) (is : List Nat) (d : D) (Ba : Bag) (o : Option D) (Bb : Bag) : Prop :=
  ∃ ρ' js b Bm, Tg g tg ρ d ρ' js ∧ (∀ i ∈ js, i ∈ is) ∧ TsL g ifs ρ' Ba b Bm ∧ match o with
    | some y => b = true ∧ Ev g elt ρ' Bm y Bb
    | none => b = false ∧ Bb = Bm
/-- the parts' readings, at whatever state the parts are told -/
def rdG (g : G) (tg : Expr) : TG := fun v σ H Q => ∃ ρ' d ρ'' js, Tg g tg ρ' d ρ'' js ∧ tTg g.T.K ρ' d ρ'' js v σ H Q
def rdT (g : G) (ifs : List Expr) : TT := fun σ H Q => ∃ ρ' Ba b Bm, TsL g ifs ρ' Ba b Bm ∧ tTs g.T.K ρ' Ba b Bm σ H Q
def rdE (g : G) (elt : Expr) : TE := fun σ H Q => ∃ ρ' Ba y Bb, Ev g elt ρ' Ba y Bb ∧ tEv g.T.K ρ' Ba (.d y) Bb σ H Q
theorem rdG_ok {X : Cx} (hX : At g X) : PG X tg (rdG g tg) := ⟨fun pins s' σ H' v u Q I r ⟨ρ', d, ρ'', js, ht, q⟩ => (ht.h _ hX).run pins s' σ H' v u Q I r q⟩
theorem rdT_ok {X : Cx} {ifs : List Expr} (hX : At g X) : PTs X ifs (rdT g ifs) := ⟨fun pins s' σ H' Q I ⟨ρ', Ba, b, Bm, ht, q⟩ => (ht.h _ hX).run pins s' σ H' Q I q⟩
theorem rdE_ok {X : Cx} {elt : Expr} (hX : At g X) : PE X elt (rdE g elt) := ⟨fun pins s' σ H' Q I ⟨ρ', Ba, b, Bm, ht, q⟩ => (ht.h _ hX).run pins s' σ H' Q I q⟩
theorem lc_read {elt : Expr} {ifs : List Expr} {scope : Scope} {own : List (Str × Nat)} {out : List D} {ρb : Rho} {wi : TI} {σ : L2.St} {H : Hp} {Q : VK} (hρ : noOwn (fgt ρ (own.map (·.2))) = ρb)
    (qi : ∀ (c : C0) (σ : L2.St) (H F : Hp) (Re : It → Hp → Prop), Rel g.T.K c ρ B σ H F → (∀ J H1 F1, Rel g.T.K c ρ B1 σ H1 F1 → Same F F1 → WalkD g.T.K c.β J ds F1 → Re J H1) → wi σ H Re)
    (run : LcRun (LcTurn (blkG g scope) tg elt ifs ρb (own.map (·.2))) ds B1 out B2) (hlen : ds.length ≤ 1000000) (h : tEv g.T.K ρ B (.o (.l out)) B2 σ H Q) :
    tLc wi (rdG (blkG g scope) tg) (rdT (blkG g scope) ifs) (rdE (blkG g scope) elt) (own.map (·.2)) σ H Q := by
  have hz : (sizeLine : Nat) = 16777216 := sizeLine_eq
  obtain ⟨c, F, R, q⟩ := h
  refine qi c σ H F _ R fun J1 H1 F1 R1 e1 w => ?_
  intro D nD
  refine ⟨fun i m H' => m = ds.length - i ∧ i ≤ ds.length ∧ ∃ F' done vs Bi rest, Rel g.T.K c ρ Bi σ H' F' ∧ Same F1 F' ∧ H' D = some (.lst vs) ∧ F' D = none ∧ RepAll g.T.K c.β F' done vs ∧ vs.length ≤ i ∧
      LcRun (LcTurn (blkG g scope) tg elt ifs ρb (own.map (·.2))) (ds.drop i) Bi rest B2 ∧ done ++ rest = out, ⟨_, rfl, Nat.zero_le _, F1, [], [], B1, out, R1.newO nD, Same.refl F1, upd_same, R1.F_none nD, .nil, Nat.zero_le _, run, rfl⟩, ?_⟩
  have n0 : c.H0 D = none := R1.H0_none nD
  have hap : ∀ (i : Nat) (ct : Ct) (q : Addr), ρ[i]? = some (.o ct) → σ[i]? = some (some (.ref q)) → q ≠ D := fun i ct p h1 h2 z => R1.apart (r := .o ct) nD ct rfl i ct p h1 h2 (by rw [z])
  rintro i m H' ⟨rfl, hle, F', done, vs, Bi, rest, R', e', hD, nF, hr, hvl, hrun, hout⟩
  by_cases hlt : i < ds.length
  · have Re := R'.enter
    have sm : Same F1 H' := e'.trans R'.sub
    have nb : some D ≠ c.β := R'.H_none n0
    refine .inr ⟨w.goes i H' hlt sm, fun H2 => ∃ F2 done vs Bi rest, Rel g.T.K c ρ Bi σ H2 F2 ∧ Same F1 F2 ∧ H2 D = some (.lst vs) ∧ F2 D = none ∧ RepAll g.T.K c.β F2 done vs ∧ vs.length ≤ i + 1 ∧
      LcRun (LcTurn (blkG g scope) tg elt ifs ρb (own.map (·.2))) (ds.drop (i + 1)) Bi rest B2 ∧ done ++ rest = out, fun H2 h2 => ⟨ds.length - (i + 1), by omega, rfl, hlt, h2⟩, fun v H2 y => ?_⟩
    -- the block's own state
    have Rb : Rel g.T.K ⟨c.β, H', F'⟩ ρb Bi (wipe σ (own.map (·.2))) H' F' := by
      rw [← hρ]
      exact (R'.fgt _).enter
    obtain ⟨d, F2, hd, R2, e2, hrep⟩ := walk_step (c := ⟨c.β, H', F'⟩) w Rb e' hlt y
    have hdrop : ds.drop i = d :: ds.drop (i + 1) := by
      obtain ⟨hl, he⟩ := List.getElem?_eq_some_iff.mp hd
      rw [List.drop_eq_getElem_cons hl, he]
    rw [hdrop] at hrun
    have keepD : ∀ {ρ2 : Rho} {B2 : Bag} {σ2 : L2.St} {H3 F3 : Hp}, Rel g.T.K ⟨c.β, H', F'⟩ ρ2 B2 σ2 H3 F3 → H3 D = some (.lst vs) ∧ F3 D = none := fun R3 =>
      ⟨R3.fr D _ nb (fun _ z => (nomatch z)) hD, R3.dj D (by show H' D ≠ none; rw [hD]; exact fun z => nomatch z) nF⟩
    cases hrun with
    | @keep _ yy _ out' _ Bb _ hS hrest =>
      obtain ⟨ρ', js, b, Bm, ht, hjs, htt, hbt, hel⟩ := hS
      subst hbt
      refine ⟨ρb, d, ρ', js, ht, _, Bi, F2, R2, hrep, fun σ3 R3 hw => ⟨(hw _ hjs).trans wipe_wipe, ρ', Bi, true, Bm, htt, _, F2, R3, fun H4 F4 R4 e4 => iteT ⟨ρ', Bm, yy, Bb, hel, _, F4, R4, fun u H5 F5 R5 e5 hu _ => ?_⟩⟩⟩
      obtain ⟨hD5, nF5⟩ := keepD R5
      have RL := R'.leave R5
      refine ⟨vs, hD5, by omega, ?_⟩
      have e15 : Same F' F5 := (e2.trans e4).trans e5
      have RL2 : Rel g.T.K c ρ Bb σ (upd H5 D (.lst (vs ++ [u]))) F5 := RL.wr ⟨_, hD5, rfl⟩ n0 nF5 hap
      exact ⟨F5, done ++ [yy], vs ++ [u], Bb, out', RL2, e'.trans e15, upd_same, nF5, (hr.mono e15).append (.cons hu .nil), by rw [List.length_append]; simp; omega, hrest, by rw [← hout]; simp⟩
    | @drop _ _ _ _ Bb _ hS hrest =>
      obtain ⟨ρ', js, b, Bm, ht, hjs, htt, hbt, hel⟩ := hS
      subst hbt
      subst hel
      refine ⟨ρb, d, ρ', js, ht, _, Bi, F2, R2, hrep, fun σ3 R3 hw => ⟨(hw _ hjs).trans wipe_wipe, ρ', Bi, false, Bb, htt, _, F2, R3, fun H4 F4 R4 e4 => iteF ?_⟩⟩
      obtain ⟨hD4, nF4⟩ := keepD R4
      exact ⟨F4, done, vs, Bb, rest, R'.leave R4, (e'.trans e2).trans e4, hD4, nF4, hr.mono (e2.trans e4), by omega, hrest, hout⟩
  · have hie : i = ds.length := by omega
    subst hie
    rw [List.drop_length] at hrun
    cases hrun
    rw [List.append_nil] at hout
    subst hout
    refine .inl ⟨w.stops H' (e'.trans R'.sub), q (.ref D) H' F' R' (e1.trans e') ⟨D, rfl, ⟨_, hD, ⟨vs, rfl, by omega, hr⟩⟩, n0, nF⟩ fun _ _ i ct p h1 h2 z => hap i ct p h1 h2 (V.ref.inj z).symm⟩
theorem evr_lc {elt : Expr} {ifs : List Expr} {scope : Scope} {own : List (Str × Nat)} {out : List D} {ρb : Rho} (hi : ItD g tg iter ρ B ds B1) (ok : blkC g.N g.sc scope own = true) (hρ : noOwn (fgt ρ (own.map (·.2))) = ρb)
    (run : LcRun (LcTurn (blkG g scope) tg elt ifs ρb (own.map (·.2))) ds B1 out B2) (hlen : ds.length ≤ 1000000)
    (hf : ∀ (env : Env) x, foldedSetIterable iter env x = pure x := by intro _ _; rfl) : EvR g (.ListComp elt [⟨tg, iter, ifs, 0⟩] scope pos) ρ B (.o (.l out)) B2 := by
  refine ⟨fun X hX => ?_⟩
  obtain ⟨wi, pi, qi⟩ := hi.h X hX
  have okX : BlkOk X.N X.env.scope scope own := by rw [hX.hN, hX.hs]; exact blkOk_by ok
  have ndX : X.N.Nodup := by rw [hX.hN]; exact hX.nd
  exact PE.imp (pe_lc hX.calm ndX pi okX (fun s H C cl fp => rdG_ok (hX.blk scope s H C cl fp)) (fun s H C cl fp => rdT_ok (hX.blk scope s H C cl fp)) (fun s H C cl fp => rdE_ok (hX.blk scope s H C cl fp)) (hf X.env)) fun σ H Q h => lc_read hρ qi run hlen h
/-- name = [..], the name a local -/
theorem ex_setLc {elt : Expr} {ifs : List Expr} {scope : Scope} {own : List (Str × Nat)} {out : List D} {ρb : Rho} {i : Nat} {py : Pos} {E : En} (s : St1 g i n) (hy : g.sc.names.lookup n = some .local) (hi : ItD g tg iter ρ B ds B1) (ok : blkC g.N g.sc scope own = true) (hρ : noOwn (fgt ρ (own.map (·.2))) = ρb)
    (run : LcRun (LcTurn (blkG g scope) tg elt ifs ρb (own.map (·.2))) ds B1 out B2) (hlen : ds.length ≤ 1000000) {spos : Pos} (h : E.nx (ρ.set i (.o (.l out))) B2)
    (hl : (py.line == pos.line) = true := by rfl) (ha : (scope.names.any fun (m, k) => m == n && (k == .local || k == .cell)) = false := by decide +kernel)
    (hf : ∀ (env : Env) x, foldedSetIterable iter env x = pure x := by intro _ _; rfl) : Ex g (.Assign [.Name n py] (.ListComp elt [⟨tg, iter, ifs, 0⟩] scope pos) spos) ρ B E := by
  refine ⟨fun X hX => ?_⟩
  obtain ⟨wi, pi, qi⟩ := hi.h X hX
  have okX : BlkOk X.N X.env.scope scope own := by rw [hX.hN, hX.hs]; exact blkOk_by ok
  have ndX : X.N.Nodup := by rw [hX.hN]; exact hX.nd
  have lx : X.env.scope.names.lookup n = some .local := by rw [hX.hs]; exact hy
  refine ⟨fun pins st σ H D I ⟨c, F, R, q1, _⟩ => ?_⟩
  have hk : X.env.scope.kind = .function := I.ok.kind
  refine (ps_setLc (i := i) hX.calm ndX (by rw [hX.hN]; exact s.ix) lx (sw_true hk lx hl ha) pi okX (fun s H C cl fp => rdG_ok (hX.blk scope s H C cl fp)) (fun s H C cl fp => rdT_ok (hX.blk scope s H C cl fp)) (fun s H C cl fp => rdE_ok (hX.blk scope s H C cl fp)) (hf X.env)).run pins st σ H D I ?_
  exact lc_read hρ qi run hlen ⟨c, F, R, fun v H' F' R' e' ok ap => q1 _ B2 _ H' F' (R'.set ok ap i) e' h⟩
/-- name = [..] as data -/
theorem ex_setLcD {elt : Expr} {ifs : List Expr} {scope : Scope} {own : List (Str × Nat)} {out : List D} {ρb : Rho} {i : Nat} {py : Pos} {E : En} (s : St1 g i n) (hy : g.sc.names.lookup n = some .local) (hi : ItD g tg iter ρ B ds B1) (ok : blkC g.N g.sc scope own = true) (hρ : noOwn (fgt ρ (own.map (·.2))) = ρb)
    (run : LcRun (LcTurn (blkG g scope) tg elt ifs ρb (own.map (·.2))) ds B1 out B2) (hlen : ds.length ≤ 1000000) {spos : Pos} (h : E.nx (ρ.set i (.d (.lst out))) B2)
    (hl : (py.line == pos.line) = true := by rfl) (ha : (scope.names.any fun (m, k) => m == n && (k == .local || k == .cell)) = false := by decide +kernel)
    (hf : ∀ (env : Env) x, foldedSetIterable iter env x = pure x := by intro _ _; rfl) : Ex g (.Assign [.Name n py] (.ListComp elt [⟨tg, iter, ifs, 0⟩] scope pos) spos) ρ B E := by
  refine ⟨fun X hX => ?_⟩
  obtain ⟨wi, pi, qi⟩ := hi.h X hX
  have okX : BlkOk X.N X.env.scope scope own := by rw [hX.hN, hX.hs]; exact blkOk_by ok
  have ndX : X.N.Nodup := by rw [hX.hN]; exact hX.nd
  have lx : X.env.scope.names.lookup n = some .local := by rw [hX.hs]; exact hy
  refine ⟨fun pins st σ H D I ⟨c, F, R, q1, _⟩ => ?_⟩
  have hk : X.env.scope.kind = .function := I.ok.kind
  refine (ps_setLc (i := i) hX.calm ndX (by rw [hX.hN]; exact s.ix) lx (sw_true hk lx hl ha) pi okX (fun s H C cl fp => rdG_ok (hX.blk scope s H C cl fp)) (fun s H C cl fp => rdT_ok (hX.blk scope s H C cl fp)) (fun s H C cl fp => rdE_ok (hX.blk scope s H C cl fp)) (hf X.env)).run pins st σ H D I ?_
  refine lc_read hρ qi run hlen ⟨c, F, R, fun v H' F' R' e' ok ap => ?_⟩
  obtain ⟨p, hv, ⟨ho, h1, h2⟩, n0, nF⟩ := ok
  subst hv
  obtain ⟨R2, e2⟩ := R'.freeze h1 (CtOk.nt h2).1 n0 nF fun j ct' hj hs => ap _ rfl j ct' p hj hs rfl
  exact q1 _ B2 _ H' _ (R2.set (r := .d (.lst out)) ((h2.mono e2).rep upd_same) apart_d i) (e'.trans e2) h
end
end PD
namespace PD
open PySem PySem.Spec PyProof.Rows L2 RZ

def startR (N : List Str) (ds : List D) : Rho := ds.map Sl.d ++ List.replicate (N.length - ds.length) .u
def fnG (T : Top) (N : List Str) (st : Stmt) (k : Nat) : G := ⟨T, N, defScope st, k, fun _ => true, none⟩
/-- what a def's body must come to -/
def retE (r : Res) (B : Bag) : En := { nx := fun _ B1 => r = .d .non ∧ B1 = B, rt := fun r1 B1 => r1 = r ∧ B1 = B }
theorem startR_get {N : List Str} {ds : List D} {i : Nat} {s : Sl} (h : (startR N ds)[i]? = some s) : s = .u ∨ ∃ d, s = .d d ∧ ds[i]? = some d := by
  unfold startR at h
  rw [List.getElem?_append] at h
  split at h
  · rw [List.getElem?_map] at h
    obtain ⟨d, h1, h2⟩ := Option.map_eq_some_iff.mp h
    exact .inr ⟨d, h2.symm, h1⟩
  · rw [List.getElem?_replicate] at h
    split at h
    · exact .inl (Option.some.inj h).symm
    · cases h
theorem fn_ok {T : Top} {k : Nat} {x qual : Str} {st : Stmt} {f : Addr} {fd : FuncData} {N ps : List Str} {R : Con} (F : Fun T.K.fr x qual st f fd) (S : FnScope N ps (defScope st)) (hm : T.mg x = some (.ref f)) (hb : Binds T.K.fr fd ps [])
    (len : ∀ ds B r B', R ds B r B' → ds.length = ps.length)
    (body : ∀ ds B r B', R ds B r B' → Exs (fnG T N st k) (defBody st) (startR N ds) B (retE r B')) : HasFn T (k + 1) x R := by
  refine ⟨f, fd, ps, hm, F.kp, hb, F.ok S (fun vs H Q E h => ?_) fun cdv A outer s H vs Q E hr h => ?_⟩
  · obtain ⟨β, Fz, ds, B, r, B', hR, ha, _⟩ := h
    rw [← ha.length]
    exact len ds B r B' hR
  · obtain ⟨β, Fz, ds, B, r, B', hR, ha, hsub, htab, hbag, q⟩ := h
    have hl := ha.length
    have hx : At (fnG T N st k) (cxOf CX0 T.P T.w T.K T.mg T.base N qual (defScope st) f cdv A outer s H E).nox :=
      ⟨rfl, rfl, rfl, rfl, rfl, rfl, rfl, S.nd, rfl, hr, fun _ _ => rfl, PassesOwn.never, fun _ h => (nomatch h)⟩
    refine ⟨_, (body ds B r B' hR).h _ hx, ⟨β, H, Fz⟩, Fz, ?_, ?_, ?_, fun _ _ _ _ _ _ _ z => z.elim, fun _ _ _ _ _ _ _ z => z.elim⟩
    · refine ⟨?_, fun b o _ _ h => h, fun b h => h, htab, Same.refl Fz, fun b _ h => h, hsub, fun a h => ⟨(hbag a h).1, (by show H a ≠ none; rw [(hbag a h).1]; exact fun z => nomatch z), (hbag a h).2⟩, fun i d h => ?_, fun i ct h => ?_, fun i j ct ct' p h => ?_⟩
      · unfold startR L2.start
        rw [List.length_append, List.length_append, List.length_map, List.length_map, List.length_replicate, List.length_replicate, hl]
      · rcases startR_get h with z | ⟨d', z, hd⟩
        · cases z
        · cases z
          obtain ⟨v, hv, hrep⟩ := ha.get hd
          refine ⟨v, ?_, hrep⟩
          unfold L2.start
          rw [List.getElem?_append_left (by rw [List.length_map]; exact (List.getElem?_eq_some_iff.mp hv).1), List.getElem?_map, hv]
          rfl
      · rcases startR_get h with z | ⟨d', z, _⟩ <;> cases z
      · rcases startR_get h with z | ⟨d', z, _⟩ <;> cases z
    · intro ρ' B1 σ' H' F' R' e' ⟨hr1, hB⟩
      subst hr1 hB
      exact q .non H' F' (fun b o hb ho h => R'.fr b o hb ho h) R'.st R'.tab e' (fun b h1 h2 => R'.dj b h1 h2) R'.sub (fun a h => (R'.bag a h).1) Rep.non
    · intro ρ' B1 σ' H' F' r1 v R' e' ok ⟨hr1, hB⟩
      subst hr1 hB
      exact q v H' F' (fun b o hb ho h => R'.fr b o hb ho h) R'.st R'.tab e' (fun b h1 h2 => R'.dj b h1 h2) R'.sub (fun a h => (R'.bag a h).1) ok
end PD
namespace PD
open PySem PySem.Spec PyProof.Rows L2 RZ

/-! ### folk -/
def nD (n : Nat) : D := .int (n : Nat)
theorem nD_int (n : Nat) : nD n = .int (n : Nat) := rfl
theorem map_nD (ns : List Nat) : ns.map nD = (ns.map fun n : Nat => (n : Int)).map D.int := by rw [List.map_map]; rfl
theorem rgD_nD (m : Nat) : rgD 0 m = (List.range m).map nD := by
  unfold rgD nD
  refine List.map_congr_left fun i _ => ?_
  rw [Int.zero_add]

section
variable {g : G} {ρ ρb : Rho} {B B1 B2 B3 : Bag} {a b e tg iter elt : Expr} {pos p tpos : Pos} {x y z d : D} {es elts ifs : List Expr} {ds : List D} {n : Str} {kk : Nat} {scope : Scope} {own : List (Str × Nat)} {α : Type}
theorem c_eqN {i j : Nat} : BinD g (compareOp .Eq) (nD i) (nD j) (.d (.bl (decide (i = j)))) := by
  have := c_eqI (g := g) (i := (i : Nat)) (j := (j : Nat))
  rw [show decide (((i : Nat) : Int) = ((j : Nat) : Int)) = decide (i = j) from decide_eq_decide.mpr Int.ofNat_inj] at this
  exact this
theorem c_neN {i j : Nat} : BinD g (compareOp .NotEq) (nD i) (nD j) (.d (.bl (!decide (i = j)))) := by
  have := c_neI (g := g) (i := (i : Nat)) (j := (j : Nat))
  rw [show decide (((i : Nat) : Int) = ((j : Nat) : Int)) = decide (i = j) from decide_eq_decide.mpr Int.ofNat_inj] at this
  exact this
theorem mem_cast {i : Nat} {ns : List Nat} : decide (((i : Nat) : Int) ∈ ns.map fun n : Nat => (n : Int)) = decide (i ∈ ns) :=
  decide_eq_decide.mpr ⟨fun h => by
    obtain ⟨j, hj, e⟩ := List.mem_map.mp h
    cases Int.ofNat_inj.mp e
    exact hj, fun h => List.mem_map.mpr ⟨i, h, rfl⟩⟩
theorem c_inN {i : Nat} {ns : List Nat} (hy : y.seq = some (ns.map nD)) : BinD g (compareOp .In) (nD i) y (.d (.bl (decide (i ∈ ns)))) := by
  rw [map_nD] at hy
  rw [← mem_cast]
  exact c_inI hy
theorem c_notInN {i : Nat} {ns : List Nat} (hy : y.seq = some (ns.map nD)) : BinD g (compareOp .NotIn) (nD i) y (.d (.bl (!decide (i ∈ ns)))) := by
  rw [map_nD] at hy
  rw [← mem_cast]
  exact c_notInI hy
theorem ev_ixN {i : Nat} (ha : Ev g a ρ B x B1) (hb : Ev g b ρ B1 (nD i) B2) (hx : x.seq = some ds) (hi : ds[i]? = some d) (hs : PlainIxE b := by intro _ _; rfl) : Ev g (.Subscript a b pos) ρ B d B2 := ev_ix ha hb hx (atI_nat hi) hs
theorem it_rangeN {m : Nat} (hg : Glb g "range") (hm : g.T.mg "range" = none) (ha : Ev g a ρ B (nD m) B1) (hl : m ≤ 1000000) (hs : ∀ env : Env, starEach [a] env = [(false, eval a env)] := by intro _; rfl) : ItD g tg (.Call (.Name "range" p) [a] [] pos) ρ B ((List.range m).map nD) B1 := by
  rw [← rgD_nD]
  exact it_range1 hg hm ha hl hs

/-! ### typed comprehensions -/
/-- one target, tests, an element; the bag stays -/
structure LcP (g : G) (tg elt : Expr) (ifs : List Expr) (ρ : Rho) (is : List Nat) (B : Bag) (d : D) (k : Bool) (y : D) : Prop where
  ex : ∃ ρ' js, Tg g tg ρ d ρ' js ∧ (∀ i ∈ js, i ∈ is) ∧ TsL g ifs ρ' B k B ∧ (k = true → Ev g elt ρ' B y B)
theorem lcp {k : Bool} {ρ' : Rho} {is js : List Nat} (h1 : Tg g tg ρ d ρ' js) (h3 : TsL g ifs ρ' B k B) (h4 : k = true → Ev g elt ρ' B y B) (h2 : ∀ i ∈ js, i ∈ is := by decide) : LcP g tg elt ifs ρ is B d k y := ⟨ρ', js, h1, h2, h3, h4⟩
theorem lcp0 {ρ' : Rho} {is js : List Nat} (h1 : Tg g tg ρ d ρ' js) (h4 : Ev g elt ρ' B y B) (h2 : ∀ i ∈ js, i ∈ is := by decide) : LcP g tg elt [] ρ is B d true y := ⟨ρ', js, h1, h2, tsl_nil, fun _ => h4⟩
theorem lcp1 {k : Bool} {t : Expr} {ρ' : Rho} {is js : List Nat} (h1 : Tg g tg ρ d ρ' js) (h3 : Ts g t ρ' B k B) (h4 : k = true → Ev g elt ρ' B y B) (h2 : ∀ i ∈ js, i ∈ is := by decide) : LcP g tg elt [t] ρ is B d k y := ⟨ρ', js, h1, h2, tsl_one h3, h4⟩
theorem run_pure {S : D → Bag → Option D → Bag → Prop} (em : α → D) (p : α → Bool) (f : α → D) : ∀ (xs : List α), (∀ a ∈ xs, S (em a) B (if p a then some (f a) else none) B) → LcRun S (xs.map em) B ((xs.filter p).map f) B
  | [], _ => .nil
  | a :: xs, h => by
    have ih := run_pure em p f xs fun b hb => h b (List.mem_cons_of_mem _ hb)
    have ha := h a List.mem_cons_self
    rw [List.map_cons, List.filter_cons]
    cases hp : p a with
    | true =>
      rw [hp] at ha
      exact .keep ha ih
    | false =>
      rw [hp] at ha
      exact .drop ha ih
theorem evr_lcP (xs : List α) (em : α → D) (p : α → Bool) (f : α → D) (hi : ItD g tg iter ρ B (xs.map em) B1) (ok : blkC g.N g.sc scope own = true) (hρ : noOwn (fgt ρ (own.map (·.2))) = ρb) (hl : xs.length ≤ 1000000)
    (ht : ∀ a ∈ xs, LcP (blkG g scope) tg elt ifs ρb (own.map (·.2)) B1 (em a) (p a) (f a))
    (hf : ∀ (env : Env) x, foldedSetIterable iter env x = pure x := by intro _ _; rfl) : EvR g (.ListComp elt [⟨tg, iter, ifs, 0⟩] scope pos) ρ B (.o (.l ((xs.filter p).map f))) B1 := by
  refine evr_lc hi ok hρ (run_pure em p f xs fun a ha => ?_) (by rw [List.length_map]; exact hl) hf
  obtain ⟨ρ', js, h1, h2, h3, h4⟩ := (ht a ha).ex
  refine ⟨ρ', js, p a, B1, h1, h2, h3, ?_⟩
  cases hp : p a with
  | true => exact ⟨rfl, h4 hp⟩
  | false => exact ⟨rfl, rfl⟩
/-- without tests -/
theorem evr_lc0 (xs : List α) (em : α → D) (f : α → D) (hi : ItD g tg iter ρ B (xs.map em) B1) (ok : blkC g.N g.sc scope own = true) (hρ : noOwn (fgt ρ (own.map (·.2))) = ρb) (hl : xs.length ≤ 1000000)
    (ht : ∀ a ∈ xs, LcP (blkG g scope) tg elt [] ρb (own.map (·.2)) B1 (em a) true (f a))
    (hf : ∀ (env : Env) x, foldedSetIterable iter env x = pure x := by intro _ _; rfl) : EvR g (.ListComp elt [⟨tg, iter, [], 0⟩] scope pos) ρ B (.o (.l (xs.map f))) B1 := by
  have := evr_lcP (pos := pos) xs em (fun _ => true) f hi ok hρ hl ht hf
  rw [List.filter_eq_self.mpr fun _ _ => rfl] at this
  exact this
/-- as data -/
theorem ev_lcP (xs : List α) (em : α → D) (p : α → Bool) (f : α → D) (hi : ItD g tg iter ρ B (xs.map em) B1) (ok : blkC g.N g.sc scope own = true) (hρ : noOwn (fgt ρ (own.map (·.2))) = ρb) (hl : xs.length ≤ 1000000)
    (ht : ∀ a ∈ xs, LcP (blkG g scope) tg elt ifs ρb (own.map (·.2)) B1 (em a) (p a) (f a))
    (hf : ∀ (env : Env) x, foldedSetIterable iter env x = pure x := by intro _ _; rfl) : Ev g (.ListComp elt [⟨tg, iter, ifs, 0⟩] scope pos) ρ B (.lst ((xs.filter p).map f)) B1 := (evr_lcP xs em p f hi ok hρ hl ht hf).fz
theorem ev_lc0 (xs : List α) (em : α → D) (f : α → D) (hi : ItD g tg iter ρ B (xs.map em) B1) (ok : blkC g.N g.sc scope own = true) (hρ : noOwn (fgt ρ (own.map (·.2))) = ρb) (hl : xs.length ≤ 1000000)
    (ht : ∀ a ∈ xs, LcP (blkG g scope) tg elt [] ρb (own.map (·.2)) B1 (em a) true (f a))
    (hf : ∀ (env : Env) x, foldedSetIterable iter env x = pure x := by intro _ _; rfl) : Ev g (.ListComp elt [⟨tg, iter, [], 0⟩] scope pos) ρ B (.lst (xs.map f)) B1 := (evr_lc0 xs em f hi ok hρ hl ht hf).fz
/-- with the bag: f tells the element and the bag behind -/
def mapB (f : α → Bag → D × Bag) : List α → Bag → List D × Bag
  | [], B => ([], B)
  | a :: xs, B => ((f a B).1 :: (mapB f xs (f a B).2).1, (mapB f xs (f a B).2).2)
theorem run_bag {S : D → Bag → Option D → Bag → Prop} (P : Bag → Prop) (em : α → D) (f : α → Bag → D × Bag) : ∀ (xs : List α) (B : Bag), P B → (∀ a ∈ xs, ∀ B, P B → S (em a) B (some (f a B).1) (f a B).2 ∧ P (f a B).2) → LcRun S (xs.map em) B (mapB f xs B).1 (mapB f xs B).2
  | [], B, _, _ => .nil
  | a :: xs, B, hP, h => .keep (h a List.mem_cons_self B hP).1 (run_bag P em f xs _ (h a List.mem_cons_self B hP).2 fun b hb => h b (List.mem_cons_of_mem _ hb))
theorem ev_lcB (P : Bag → Prop) (xs : List α) (em : α → D) (f : α → Bag → D × Bag) (hi : ItD g tg iter ρ B (xs.map em) B1) (ok : blkC g.N g.sc scope own = true) (hρ : noOwn (fgt ρ (own.map (·.2))) = ρb) (hl : xs.length ≤ 1000000) (hP : P B1)
    (ht : ∀ a ∈ xs, ∀ B, P B → (∃ ρ' js, Tg (blkG g scope) tg ρb (em a) ρ' js ∧ (∀ i ∈ js, i ∈ own.map (·.2)) ∧ Ev (blkG g scope) elt ρ' B (f a B).1 (f a B).2) ∧ P (f a B).2)
    (hf : ∀ (env : Env) x, foldedSetIterable iter env x = pure x := by intro _ _; rfl) : Ev g (.ListComp elt [⟨tg, iter, [], 0⟩] scope pos) ρ B (.lst (mapB f xs B1).1) (mapB f xs B1).2 := by
  refine (evr_lc hi ok hρ (run_bag P em f xs B1 hP fun a ha B hB => ?_) (by rw [List.length_map]; exact hl) hf).fz
  obtain ⟨⟨ρ', js, h1, h2, h3⟩, h4⟩ := ht a ha B hB
  exact ⟨⟨ρ', js, true, B, h1, h2, tsl_nil, rfl, h3⟩, h4⟩
/-- name = [..], typed -/
theorem LcP.run {em : α → D} {k : α → Bool} {f : α → D} {xs : List α} {is : List Nat} (ht : ∀ a ∈ xs, LcP g tg elt ifs ρb is B1 (em a) (k a) (f a)) : LcRun (LcTurn g tg elt ifs ρb is) (xs.map em) B1 ((xs.filter k).map f) B1 :=
  run_pure em k f xs fun a ha => by
    obtain ⟨ρ', js, h1, h2, h3, h4⟩ := (ht a ha).ex
    refine ⟨ρ', js, k a, B1, h1, h2, h3, ?_⟩
    cases hp : k a with
    | true => exact ⟨rfl, h4 hp⟩
    | false => exact ⟨rfl, rfl⟩
theorem LcP.run0 {em : α → D} {f : α → D} {xs : List α} {is : List Nat} (ht : ∀ a ∈ xs, LcP g tg elt [] ρb is B1 (em a) true (f a)) : LcRun (LcTurn g tg elt [] ρb is) (xs.map em) B1 (xs.map f) B1 := by
  have := LcP.run (k := fun _ => true) (f := f) ht
  rw [List.filter_eq_self.mpr fun _ _ => rfl] at this
  exact this
end
end PD
namespace PD
open PySem PySem.Spec PyProof.Rows L2 RZ

/-! ### own things changed -/
section
variable {K : KT} {c : C0} {ρ : Rho} {B B' : Bag} {σ : L2.St} {H F : Hp}
theorem Rel.wrOwn (R : Rel K c ρ B σ H F) {i : Nat} {ct ct' : Ct} {p : Addr} {ho : HO} (hi : ρ[i]? = some (.o ct)) (hp : σ[i]? = some (some (.ref p))) (h : CtOk K c.β F ct' ho) : Rel K c (ρ.set i (.o ct')) B σ (upd H p ho) F := by
  obtain ⟨p', h1, ⟨ho0, h2, h3⟩, h4, h5⟩ := R.own i ct hi
  rw [hp] at h1
  cases h1
  have hil : i < ρ.length := (List.getElem?_eq_some_iff.mp hi).1
  have pick : ∀ (j : Nat) (s : Sl), (ρ.set i (.o ct'))[j]? = some s → (j = i ∧ s = .o ct') ∨ (j ≠ i ∧ ρ[j]? = some s) := fun j s h => by
    by_cases hj : i = j
    · subst hj
      rw [List.getElem?_set_self hil] at h
      exact .inl ⟨rfl, (Option.some.inj h).symm⟩
    · rw [List.getElem?_set_ne hj] at h
      exact .inr ⟨fun z => hj z.symm, h⟩
  have hb : some p ≠ c.β := R.H_none h4
  refine ⟨by rw [List.length_set]; exact R.len, fun b o hb hu h => by rw [upd_ne (ne_of_none h h4)]; exact R.fr b o hb hu h, (fun b h => by
      by_cases hb : b = p
      · rw [hb, upd_same]; exact fun z => nomatch z
      · rw [upd_ne hb]; exact R.st b h), R.tab.but h2 (CtOk.nt h3).1 (CtOk.nt h3).2 rfl, R.gr, R.dj, fun b u h => by rw [upd_ne (ne_of_none h h5)]; exact R.sub b u h,
    fun a ha => ⟨by rw [upd_ne (fun z => hb (by rw [← z]; exact ha.symm))]; exact (R.bag a ha).1, (R.bag a ha).2⟩, fun j x h => ?_, fun j ct2 hj => ?_, fun j j' ct1 ct2 q h1 h2 h3 h4 => ?_⟩
  · rcases pick j _ h with ⟨_, z⟩ | ⟨_, h'⟩
    · cases z
    · exact R.dat j x h'
  · rcases pick j _ hj with ⟨rfl, z⟩ | ⟨hne, h'⟩
    · cases z
      exact ⟨p, hp, ⟨ho, upd_same, h⟩, h4, h5⟩
    · obtain ⟨q, g1, ⟨ho2, g2, g3⟩, g4, g5⟩ := R.own j ct2 h'
      have hq : q ≠ p := fun z => hne (R.sep j i ct2 ct p h' hi (by rw [g1, z]) hp)
      exact ⟨q, g1, ⟨ho2, by rw [upd_ne hq]; exact g2, g3⟩, g4, g5⟩
  · rcases pick j _ h1 with ⟨rfl, _⟩ | ⟨hne, h1'⟩
    · rcases pick j' _ h2 with ⟨rfl, _⟩ | ⟨hne', h2'⟩
      · rfl
      · exact R.sep _ j' ct ct2 q hi h2' h3 h4
    · rcases pick j' _ h2 with ⟨rfl, _⟩ | ⟨hne', h2'⟩
      · exact R.sep j _ ct1 ct q h1' hi h3 h4
      · exact R.sep j j' ct1 ct2 q h1' h2' h3 h4
/-- an own thing of a slot becomes data -/
theorem Rel.fzSlot (R : Rel K c ρ B σ H F) {i : Nat} {ct : Ct} (hi : ρ[i]? = some (.o ct)) : ∃ F', Rel K c (ρ.set i (.d ct.d)) B σ H F' ∧ Same F F' := by
  obtain ⟨p, hp, ⟨ho, h2, h3⟩, h4, h5⟩ := R.own i ct hi
  have hil : i < ρ.length := (List.getElem?_eq_some_iff.mp hi).1
  have pick : ∀ (j : Nat) (s : Sl), (ρ.set i .u)[j]? = some s → s = .u ∨ (j ≠ i ∧ ρ[j]? = some s) := fun j s h => by
    by_cases hj : i = j
    · subst hj
      rw [List.getElem?_set_self hil] at h
      exact .inl (Option.some.inj h).symm
    · rw [List.getElem?_set_ne hj] at h
      exact .inr ⟨fun z => hj z.symm, h⟩
  have R0 : Rel K c (ρ.set i .u) B σ H F := by
    refine ⟨by rw [List.length_set]; exact R.len, R.fr, R.st, R.tab, R.gr, R.dj, R.sub, R.bag, fun j x h => ?_, fun j ct2 h => ?_, fun j j' ct1 ct2 q h1 h2 h3 h4 => ?_⟩
    · rcases pick j _ h with z | ⟨_, h'⟩
      · cases z
      · exact R.dat j x h'
    · rcases pick j _ h with z | ⟨_, h'⟩
      · cases z
      · exact R.own j ct2 h'
    · rcases pick j _ h1 with z | ⟨_, h1'⟩
      · cases z
      · rcases pick j' _ h2 with z | ⟨_, h2'⟩
        · cases z
        · exact R.sep j j' ct1 ct2 q h1' h2' h3 h4
  obtain ⟨R1, e1⟩ := R0.freeze h2 (CtOk.nt h3).1 h4 h5 fun j ct2 hj hs => by
    rcases pick j _ hj with z | ⟨hne, h'⟩
    · cases z
    · exact hne (R.sep j i ct2 ct p h' hi hs hp)
  have R2 := R1.set (r := .d ct.d) (v := .ref p) ((h3.mono e1).rep upd_same) apart_d i
  rw [List.set_set] at R2
  have hσ : σ.set i (some (.ref p)) = σ := by
    apply List.ext_getElem?
    intro j
    by_cases hj : i = j
    · subst hj
      rw [List.getElem?_set_self (by rw [← R.len]; exact hil), hp]
    · rw [List.getElem?_set_ne hj]
  rw [hσ] at R2
  exact ⟨_, R2, e1⟩
end

section
variable {g : G} {ρ ρb : Rho} {B B1 B2 B3 : Bag} {a b e tg iter elt : Expr} {pos p apos cpos epos : Pos} {x y z d : D} {es elts ifs : List Expr} {sts : List Stmt} {ds : List D} {n n2 : Str} {E : En}
theorem exs_fz {i : Nat} {ct : Ct} (hi : ρ[i]? = some (.o ct)) (h : Exs g sts (ρ.set i (.d ct.d)) B E) : Exs g sts ρ B E :=
  ⟨fun X hX => PSs.imp (h.h X hX) fun D σ H ⟨c, F, R, q1, q2, q3, q4⟩ =>
    let ⟨F', R', e'⟩ := R.fzSlot hi
    ⟨c, F', R', q1.mono e' fun _ _ z => z, q2.mono e' fun _ _ z => z, q3.mono e' fun _ _ z => z, q4.mono e' fun _ _ z => z⟩⟩
/-- forget a slot -/
theorem Rel.u {K : KT} {c : C0} {σ : L2.St} {H F : Hp} (R : Rel K c ρ B σ H F) (i : Nat) : Rel K c (ρ.set i .u) B σ H F := by
  have pick : ∀ (j : Nat) (s : Sl), (ρ.set i .u)[j]? = some s → s = .u ∨ ρ[j]? = some s := fun j s h => by
    by_cases hj : i = j
    · subst hj
      by_cases hi : i < ρ.length
      · rw [List.getElem?_set_self hi] at h
        exact .inl (Option.some.inj h).symm
      · rw [List.getElem?_eq_none (by rw [List.length_set]; omega)] at h
        cases h
    · rw [List.getElem?_set_ne hj] at h
      exact .inr h
  refine ⟨by rw [List.length_set]; exact R.len, R.fr, R.st, R.tab, R.gr, R.dj, R.sub, R.bag, fun j x h => ?_, fun j ct2 h => ?_, fun j j' ct1 ct2 q h1 h2 h3 h4 => ?_⟩
  · rcases pick j _ h with z | h'
    · cases z
    · exact R.dat j x h'
  · rcases pick j _ h with z | h'
    · cases z
    · exact R.own j ct2 h'
  · rcases pick j _ h1 with z | h1'
    · cases z
    · rcases pick j' _ h2 with z | h2'
      · cases z
      · exact R.sep j j' ct1 ct2 q h1' h2' h3 h4
theorem exs_u {i : Nat} (h : Exs g sts (ρ.set i .u) B E) : Exs g sts ρ B E :=
  ⟨fun X hX => PSs.imp (h.h X hX) fun D σ H ⟨c, F, R, q⟩ => ⟨c, F, R.u i, q⟩⟩
/-- x.append(e), x an own list -/
theorem ex_append {i : Nat} (hN : g.N[i]? = some n) (hv : Vis g.sc n) (hi : ρ[i]? = some (.o (.l ds))) (he : Ev g e ρ B y B1) (h : E.nx (ρ.set i (.o (.l (ds ++ [y])))) B1) (hl : ds.length ≤ 1000000)
    (hd : (n == ("__debug__" : Str)) = false := by decide) (hcd : (n == ("__classdict__" : Str)) = false := by decide)
    (hbase : ∀ env : Env, attributeBase (.Name n p) "append" env (eval (.Name n p) env) = eval (.Name n p) env := by intro _; rfl)
    (hfew : ∀ env : Env, ((backTo cpos (starEach (e :: []) env)).all (fun x => !x.1) && (backToKw cpos (keywordEach [] env)).all (fun x => x.1.isSome)
      && decide ((e :: []).length + ([] : List Keyword).length + (if ([] : List Keyword).isEmpty then 0 else 1) < 30)) = true := by intro _; rfl)
    (hline : (apos.endLine == cpos.line) = true := by rfl) (hs : ∀ env : Env, starEach (e :: []) env = (false, eval e env) :: starEach [] env := by intro _; rfl) (hplain : ∀ env : Env, (backTo cpos (starEach [] env)).any (·.1) = false := by intro _; rfl)
    (hs1 : ∀ env : Env, swapsWith (.Call (.Attribute (.Name n p) "append" apos) [e] [] cpos) none epos.line env = pure false := by intro _; rfl) : Ex g (.Expr (.Call (.Attribute (.Name n p) "append" apos) [e] [] cpos) epos) ρ B E := by
  refine ⟨fun X hX => ?_⟩
  have pv : PE X (.Name n p) (tVar i) := pe_var (by rw [hX.hN]; exact hN) (by rw [hX.hs]; exact hv) hd hcd
  have pa : PA X [e] (tCons (tEv g.T.K ρ B (.d y) B1) tNil) := pa_cons (he.h X hX) pa_nil (hs X.env)
  refine PS.imp (ps_expr (pe_bm PySem.F.plainAttrs_list PySem.F.slot_list_append PySem.F.type_list_append mt_append pv pa (hbase X.env) (hfew X.env) hline (hs X.env) (hplain X.env)) (hs1 X.env)) fun D σ H ⟨c, F, R, q1, _⟩ => ?_
  obtain ⟨q, h1, ⟨ho, h2, vs, rfl, hz, hr⟩, h4, h5⟩ := R.own i _ hi
  have hz' : (sizeLine : Nat) = 16777216 := sizeLine_eq
  refine ⟨.ref q, h1, .inl ⟨rfl, _, .inl (.inl h2)⟩, c, F, R, fun v H1 F1 R1 e1 hv _ => ?_⟩
  obtain ⟨q', g1, ⟨ho', g2, vs', rfl, gz, gr⟩, g4, g5⟩ := R1.own i _ hi
  rw [h1] at g1
  cases g1
  have hlen := gr.length
  refine ⟨q, vs', v, rfl, rfl, g2, by omega, ?_⟩
  exact q1 _ B1 σ _ F1 (R1.wrOwn (ct' := .l (ds ++ [y])) hi h1 ⟨_, rfl, by rw [List.length_append]; simp; omega, gr.append (.cons hv .nil)⟩) e1 h
/-- x.append(y.pop(e)), x and y own lists -/
theorem ex_appendPop {i j k : Nat} {xs : List D} {p2 apos2 cpos2 : Pos} (hN : g.N[i]? = some n) (hv : Vis g.sc n) (hi : ρ[i]? = some (.o (.l ds))) (hN2 : g.N[j]? = some n2) (hv2 : Vis g.sc n2) (hj : ρ[j]? = some (.o (.l xs))) (hij : i ≠ j)
    (he : Ev g e ρ B (nD k) B1) (hk : xs[k]? = some y) (hkl : k < 1000000) (h : E.nx ((ρ.set j (.o (.l (xs.eraseIdx k)))).set i (.o (.l (ds ++ [y])))) B1) (hl : ds.length ≤ 1000000)
    (hd : (n == ("__debug__" : Str)) = false := by decide) (hcd : (n == ("__classdict__" : Str)) = false := by decide) (hd2 : (n2 == ("__debug__" : Str)) = false := by decide) (hcd2 : (n2 == ("__classdict__" : Str)) = false := by decide)
    (hbase : ∀ env : Env, attributeBase (.Name n p) "append" env (eval (.Name n p) env) = eval (.Name n p) env := by intro _; rfl)
    (hbase2 : ∀ env : Env, attributeBase (.Name n2 p2) "pop" env (eval (.Name n2 p2) env) = eval (.Name n2 p2) env := by intro _; rfl)
    (hfew : ∀ env : Env, ((backTo cpos (starEach (.Call (.Attribute (.Name n2 p2) "pop" apos2) [e] [] cpos2 :: []) env)).all (fun x => !x.1) && (backToKw cpos (keywordEach [] env)).all (fun x => x.1.isSome)
      && decide ((Expr.Call (.Attribute (.Name n2 p2) "pop" apos2) [e] [] cpos2 :: []).length + ([] : List Keyword).length + (if ([] : List Keyword).isEmpty then 0 else 1) < 30)) = true := by intro _; rfl)
    (hfew2 : ∀ env : Env, ((backTo cpos2 (starEach (e :: []) env)).all (fun x => !x.1) && (backToKw cpos2 (keywordEach [] env)).all (fun x => x.1.isSome)
      && decide ((e :: []).length + ([] : List Keyword).length + (if ([] : List Keyword).isEmpty then 0 else 1) < 30)) = true := by intro _; rfl)
    (hline : (apos.endLine == cpos.line) = true := by rfl) (hline2 : (apos2.endLine == cpos2.line) = true := by rfl) (hs : ∀ env : Env, starEach (e :: []) env = (false, eval e env) :: starEach [] env := by intro _; rfl) (hplain : ∀ (cpos : Pos) (env : Env), (backTo cpos (starEach [] env)).any (·.1) = false := by intro _ _; rfl)
    (hs0 : ∀ env : Env, starEach (.Call (.Attribute (.Name n2 p2) "pop" apos2) [e] [] cpos2 :: []) env = (false, eval (.Call (.Attribute (.Name n2 p2) "pop" apos2) [e] [] cpos2) env) :: starEach [] env := by intro _; rfl)
    (hs1 : ∀ env : Env, swapsWith (.Call (.Attribute (.Name n p) "append" apos) [.Call (.Attribute (.Name n2 p2) "pop" apos2) [e] [] cpos2] [] cpos) none epos.line env = pure false := by intro _; rfl) :
    Ex g (.Expr (.Call (.Attribute (.Name n p) "append" apos) [.Call (.Attribute (.Name n2 p2) "pop" apos2) [e] [] cpos2] [] cpos) epos) ρ B E := by
  refine ⟨fun X hX => ?_⟩
  have pv : PE X (.Name n p) (tVar i) := pe_var (by rw [hX.hN]; exact hN) (by rw [hX.hs]; exact hv) hd hcd
  have pv2 : PE X (.Name n2 p2) (tVar j) := pe_var (by rw [hX.hN]; exact hN2) (by rw [hX.hs]; exact hv2) hd2 hcd2
  have pa : PA X [e] (tCons (tEv g.T.K ρ B (.d (nD k)) B1) tNil) := pa_cons (he.h X hX) pa_nil (hs X.env)
  have pp := pe_bm (cpos := cpos2) PySem.F.plainAttrs_list PySem.F.slot_list_pop PySem.F.type_list_pop mt_popAt pv2 pa (hbase2 X.env) (hfew2 X.env) hline2 (hs X.env) (hplain _ X.env)
  refine PS.imp (ps_expr (pe_bm PySem.F.plainAttrs_list PySem.F.slot_list_append PySem.F.type_list_append mt_append pv (pa_cons pp pa_nil (hs0 X.env)) (hbase X.env) (hfew X.env) hline (hs0 X.env) (hplain _ X.env)) (hs1 X.env)) fun D σ H ⟨c, F, R, q1, _⟩ => ?_
  have hz' : (sizeLine : Nat) = 16777216 := sizeLine_eq
  obtain ⟨q, h1, ⟨ho, h2, vs, rfl, hz, hr⟩, h4, h5⟩ := R.own i _ hi
  obtain ⟨r, k1, ⟨ho, k2, ws, rfl, kz, kr⟩, k4, k5⟩ := R.own j _ hj
  refine ⟨.ref q, h1, .inl ⟨rfl, _, .inl (.inl h2)⟩, .ref r, k1, .inl ⟨rfl, _, .inl (.inl k2)⟩, c, F, R, fun v H1 F1 R1 e1 hv _ => ?_⟩
  cases hv
  obtain ⟨r', g1, ⟨ho', g2, ws', rfl, gz, gr⟩, g4, g5⟩ := R1.own j _ hj
  rw [k1] at g1
  cases g1
  obtain ⟨w, hw, rw'⟩ := gr.get hk
  have hkl2 : k < ws'.length := (List.getElem?_eq_some_iff.mp hw).1
  refine ⟨r, ws', (k : Nat), k, w, rfl, rfl, g2, by omega, by omega, ?_, hw, ?_⟩
  · rw [seqIndex_of (by omega) (by omega)]
    simp
  have R2 := R1.wrOwn hj k1 (ct' := .l (xs.eraseIdx k)) ⟨_, rfl, Nat.le_trans (len_erase _ _) gz, gr.eraseIdx k⟩
  have hi2 : (ρ.set j (.o (.l (xs.eraseIdx k))))[i]? = some (.o (.l ds)) := by rw [List.getElem?_set_ne (Ne.symm hij)]; exact hi
  obtain ⟨q', m1, ⟨ho', m2, vs', rfl, mz, mr⟩, m4, m5⟩ := R2.own i _ hi2
  rw [h1] at m1
  cases m1
  have hlen := mr.length
  refine ⟨q, vs', w, rfl, rfl, m2, by omega, ?_⟩
  exact q1 _ B1 σ _ F1 (R2.wrOwn (ct' := .l (ds ++ [y])) hi2 h1 ⟨_, rfl, by rw [List.length_append]; simp; omega, mr.append (.cons rw' .nil)⟩) e1 h
/-- len(x), x an own list -/
theorem ev_lenOwn {i : Nat} {pn : Pos} (hN : g.N[i]? = some n) (hv : Vis g.sc n) (hi : ρ[i]? = some (.o (.l ds))) (hg : Glb g "len") (hm : g.T.mg "len" = none) (hd : (n == ("__debug__" : Str)) = false := by decide) (hcd : (n == ("__classdict__" : Str)) = false := by decide)
    (hs : ∀ env : Env, starEach (.Name n p :: []) env = (false, eval (.Name n p) env) :: starEach [] env := by intro _; rfl) (hplain : ∀ env : Env, (backTo pos (starEach [] env)).any (·.1) = false := by intro _; rfl) :
    Ev g (.Call (.Name "len" pn) [.Name n p] [] pos) ρ B (nD ds.length) B := by
  refine ⟨fun X hX => ?_⟩
  have pv : PE X (.Name n p) (tVar i) := pe_var (by rw [hX.hN]; exact hN) (by rw [hX.hs]; exact hv) hd hcd
  refine PE.imp (pe_callB call_len_seq (hg.at hX) (by rw [hX.hm]; exact hm) PySem.boot_len (pa_cons pv pa_nil (hs X.env)) (by decide) (by decide) (hs X.env) (hplain X.env)) fun σ H Q ⟨c, F, R, q⟩ => ?_
  obtain ⟨r, k1, ⟨ho, k2, ws, rfl, kz, kr⟩, k4, k5⟩ := R.own i _ hi
  refine ⟨.ref r, k1, r, ws, rfl, .inl (.inl (.inl k2)), ?_⟩
  have := q (.int (ds.length : Nat)) H F R (Same.refl F) (.int _) apart_d
  rw [kr.length] at this
  exact this
/-- list(range(n)) -/
theorem evr_listRange {m : Nat} {pl pr prc : Pos} (hg : Glb g "list") (hm : g.T.mg "list" = none) (hg2 : Glb g "range") (hm2 : g.T.mg "range" = none) (ha : Ev g a ρ B (nD m) B1) (hml : m ≤ 1000000)
    (na : ∀ env : Env, starEach [a] env = (false, eval a env) :: starEach [] env := by intro _; rfl) (nb : ∀ env : Env, starEach [.Call (.Name "range" pr) [a] [] prc] env = (false, eval (.Call (.Name "range" pr) [a] [] prc) env) :: starEach [] env := by intro _; rfl) :
    EvR g (.Call (.Name "list" pl) [.Call (.Name "range" pr) [a] [] prc] [] pos) ρ B (.o (.l ((List.range m).map nD))) B1 := by
  refine ⟨fun X hX => PE.imp (pe_listRg hX.calm (hg.at hX) (by rw [hX.hm]; exact hm) (prg_1 (hg2.at hX) (by rw [hX.hm]; exact hm2) (ha.h X hX) (na X.env)) (nb X.env)) fun σ H Q ⟨c, F, R, q⟩ => ⟨c, F, R, fun v H1 F1 R1 e1 hv _ => ?_⟩⟩
  cases hv
  refine ⟨_, rfl, .of_le (by omega) (by omega) (by omega) (by omega), fun l nl => ?_⟩
  have hrep : RepAll g.T.K c.β F1 ((List.range m).map nD) (rgV 0 ((m : Nat) : Int)) := by
    have e : rgV 0 ((m : Nat) : Int) = (List.range m).map fun i => V.int (i : Nat) := by
      unfold rgV
      rw [show (((m : Nat) : Int) - 0).toNat = m by omega]
      exact List.map_congr_left fun i _ => by rw [Int.zero_add]
    rw [e]
    generalize List.range m = l
    induction l with
    | nil => exact .nil
    | cons i l ih => exact .cons (.int _) ih
  have hlen : (rgV 0 ((m : Nat) : Int)).length ≤ sizeLine := by
    rw [rgV_length, sizeLine_eq]
    omega
  exact q _ _ F1 (R1.newO nl) e1 ⟨l, rfl, OwnAt.new' R1 nl ⟨_, rfl, hlen, hrep⟩⟩ (R1.apart nl)

/-! ### the bag -/
def Bag.set (B : Bag) : Nat → Int → Bag
  | 0, v => (v, B.2.1, B.2.2)
  | 1, v => (B.1, v, B.2.2)
  | _, v => (B.1, B.2.1, v)
theorem ex_setBag {o i : Expr} {k : Nat} {v : Int} {ps : Pos} (he : Ev g e ρ B (.int v) B1) (ho : Ev g o ρ B1 .bag B2) (hi : Ev g i ρ B2 (.int (k : Nat)) B3) (hk : k < 3) (h : E.nx ρ (Bag.set B3 k v))
    (ha : ∀ (env : Env) (v : Value), assign (.Subscript o i ps) env v = (do
      let ov ← holding [v] (eval o env)
      let iv ← holding [v, ov] (eval i env)
      standAt ps
      holding [v, ov, iv] (setItem ov iv v)
      release [v, ov, iv] []) := by intro _ _; rfl)
    (hs : ∀ env : Env, swapsWithSole [.Subscript o i ps] e pos.line env = pure false := by intro _; rfl) (hw : ∀ env : Env, swappedStores [.Subscript o i ps] e env = pure none := by intro _; rfl)
    (h1 : ∀ env : Env, (assignEach [.Subscript o i ps] env).map (·.2) = [assign (.Subscript o i ps) env] := by intro _; rfl) : Ex g (.Assign [.Subscript o i ps] e pos) ρ B E := by
  refine ⟨fun X hX => PS.imp (ps_asg (he.h X hX) (pg_sub (ho.h X hX) (hi.h X hX) set_list (ha X.env)) (hs X.env) (hw X.env) (h1 X.env)) fun D σ H ⟨c, F, R, q1, _⟩ => ⟨c, F, R, fun v1 H1 F1 R1 e1 hv _ => ⟨c, F1, R1, fun v2 H2 F2 R2 e2 hv2 _ => ⟨c, F2, R2, fun v3 H3 F3 R3 e3 hv3 _ => ?_⟩⟩⟩⟩
  cases hv
  cases hv3
  cases hv2 with
  | bag hβ =>
    obtain ⟨hb1, hb2, hb3⟩ := R3.bag _ hβ
    refine ⟨_, [.int B3.1, .int B3.2.1, .int B3.2.2], (k : Nat), k, rfl, rfl, hb1, ?_, ?_⟩
    · unfold ixN
      rw [if_pos (by omega), if_pos (show ((k : Nat) : Int) < ([V.int B3.1, V.int B3.2.1, V.int B3.2.2] : List V).length by show ((k : Nat) : Int) < ((3 : Nat) : Int); omega)]
      rw [Int.toNat_natCast]
    · have hset : (.lst ([V.int B3.1, V.int B3.2.1, V.int B3.2.2].set k (.int v)) : HO) = bagH (Bag.set B3 k v) := by
        match k, hk with
        | 0, _ => rfl
        | 1, _ => rfl
        | 2, _ => rfl
      rw [hset]
      have nF := R3.F_bag hβ
      refine q1 ρ _ σ _ F3 ⟨R3.len, fun b u hb hu h => ?_, (fun b h => by
        by_cases hb : some b = c.β
        · rw [hβ] at hb; cases hb; rw [upd_same]; exact fun z => nomatch z
        · rw [upd_ne (fun z => hb (by rw [z]; exact hβ.symm))]; exact R3.st b h), R3.tab.but hb1 bag_nt.1 bag_nt.2 rfl, R3.gr, R3.dj, fun b u h => ?_, fun a' ha' => ?_, R3.dat, fun j ct hj => ?_, R3.sep⟩ ((e1.trans e2).trans e3) h
      · rw [upd_ne (fun z => hb (by rw [z]; exact hβ.symm))]
        exact R3.fr b u hb hu h
      · rw [upd_ne (ne_of_none h nF)]
        exact R3.sub b u h
      · rw [hβ] at ha'
        cases ha'
        exact ⟨upd_same, hb2, hb3⟩
      · obtain ⟨q, g1, ⟨ho2, g2, g3⟩, g4, g5⟩ := R3.own j ct hj
        have hq : some q ≠ c.β := R3.H_none g4
        exact ⟨q, g1, ⟨ho2, by rw [upd_ne (fun z => hq (by rw [z]; exact hβ.symm))]; exact g2, g3⟩, g4, g5⟩
end
end PD
namespace PD
open PySem PySem.Spec PyProof.Rows L2 RZ

/-! ### max, min with a default -/
theorem reads_ints {h : Heap} {ns : List Int} {us : List Value} (hi : IntsAre us ns) : ∃ as, ReadsAll h us (ns.map PyData.int) as := by
  induction hi with
  | nil => exact ⟨_, ReadsAll.nil⟩
  | cons i t _ ih =>
    obtain ⟨as, h⟩ := ih
    exact ⟨_, ReadsAll.cons (Reads.int _ _) h⟩
theorem alikeAll_ints (ns : List Int) : PySem.W.AlikeAll (ns.map PyData.int) :=
  ⟨fun x hx y hy => by
    obtain ⟨i, _, rfl⟩ := List.mem_map.mp hx
    obtain ⟨j, _, rfl⟩ := List.mem_map.mp hy
    rfl, fun x hx => by
    obtain ⟨i, _, rfl⟩ := List.mem_map.mp hx
    exact fun z => nomatch z⟩
theorem int_of_reads {h : Heap} {v : Value} {i : Int} {as : List Addr} (r : Reads h v (.int i) as) : ∃ t, v = .int i t := by
  cases r
  exact ⟨_, rfl⟩
theorem foldl_max (n : Int) : ∀ ns : List Int, ns.foldl max n = maxL (n :: ns) := fun ns => by unfold maxL; rw [List.max?_cons']; rfl
theorem foldl_min (n : Int) : ∀ ns : List Int, ns.foldl min n = minL (n :: ns) := fun ns => by unfold minL; rw [List.min?_cons']; rfl
def maxO (ns : List Int) (d : Int) : Int := if ns = [] then d else maxL ns
def minO (ns : List Int) (d : Int) : Int := if ns = [] then d else minL ns
section
variable {X : Cx}
theorem cr_maxDef (hc : X.calm = true) (hu : X.A.units + 64 < cLine) : CallRK X (.builtin "max") [Str.ofString "default"] (fun vs zs H Q => ∃ (a : Addr) (ns : List Int) (d : Int), vs = [.ref a] ∧ zs = [.int d] ∧ SqL X.K H a (ns.map V.int) ∧ Q (.int (maxO ns d)) H) := by
  intro pins s σ H vs zs us ws Q I r rz h
  obtain ⟨a, ns, d, rfl, rfl, hs, q⟩ := h
  obtain rfl := Vals.ref1 r
  obtain ⟨w1, rfl, t, rfl⟩ := vals1 rz
  obtain ⟨its, rv, hl, hz⟩ := I.list hs
  obtain ⟨as, hr⟩ := reads_ints (h := s.heap) rv.ints
  show wpAny _ _ (call (.builtin "max") [.ref a] [(Str.ofString "default", Value.int d t)]) _ _ s
  refine PySem.W.max_list_default (I.ok.hd hc) hl.isList hr (alikeAll_ints ns) (by rw [PySem.W.depth_ints]; omega) (fun e h' tk hk => ?_) fun y ys i v h' tk bs e hv rd hk => ?_
  · have e0 : ns = [] := List.map_eq_nil_iff.mp e
    subst e0
    exact ⟨.int d, H, I.kept hk, ⟨t, rfl⟩, q⟩
  · cases ns with
    | nil => cases e
    | cons n ns =>
      rw [List.map_cons] at e
      injection e with e1 e2
      subst e1 e2
      rw [PySem.W.maxD_ints] at rd
      obtain ⟨t', rfl⟩ := int_of_reads rd
      rw [foldl_max]
      exact ⟨.int _, H, I.kept hk, ⟨t', rfl⟩, q⟩
theorem cr_minDef (hc : X.calm = true) (hu : X.A.units + 64 < cLine) : CallRK X (.builtin "min") [Str.ofString "default"] (fun vs zs H Q => ∃ (a : Addr) (ns : List Int) (d : Int), vs = [.ref a] ∧ zs = [.int d] ∧ SqL X.K H a (ns.map V.int) ∧ Q (.int (minO ns d)) H) := by
  intro pins s σ H vs zs us ws Q I r rz h
  obtain ⟨a, ns, d, rfl, rfl, hs, q⟩ := h
  obtain rfl := Vals.ref1 r
  obtain ⟨w1, rfl, t, rfl⟩ := vals1 rz
  obtain ⟨its, rv, hl, hz⟩ := I.list hs
  obtain ⟨as, hr⟩ := reads_ints (h := s.heap) rv.ints
  show wpAny _ _ (call (.builtin "min") [.ref a] [(Str.ofString "default", Value.int d t)]) _ _ s
  refine PySem.W.min_list_default (I.ok.hd hc) hl.isList hr (alikeAll_ints ns) (by rw [PySem.W.depth_ints]; omega) (fun e h' tk hk => ?_) fun y ys i v h' tk bs e hv rd hk => ?_
  · have e0 : ns = [] := List.map_eq_nil_iff.mp e
    subst e0
    exact ⟨.int d, H, I.kept hk, ⟨t, rfl⟩, q⟩
  · cases ns with
    | nil => cases e
    | cons n ns =>
      rw [List.map_cons] at e
      injection e with e1 e2
      subst e1 e2
      rw [PySem.W.minD_ints] at rd
      obtain ⟨t', rfl⟩ := int_of_reads rd
      rw [foldl_min]
      exact ⟨.int _, H, I.kept hk, ⟨t', rfl⟩, q⟩
end
section
variable {g : G} {ρ ρb : Rho} {B B1 B2 B3 : Bag} {a b e tg iter elt : Expr} {pos p kpos : Pos} {x y z d : D} {es elts ifs : List Expr} {ds : List D} {n : Str}
theorem ev_maxDef {ns : List Int} {dv : Int} (hg : Glb g "max") (hm : g.T.mg "max" = none) (ha : Ev g a ρ B (.lst (ns.map .int)) B1) (hb : Ev g b ρ B1 (.int dv) B2)
    (hs : ∀ env : Env, starEach [a] env = (false, eval a env) :: starEach [] env := by intro _; rfl)
    (he : ∀ env : Env, backTo pos (starEach [a] env) = (false, eval a env) :: backTo pos (starEach [] env) := by intro _; rfl) (hpl : ∀ env : Env, (backTo pos (starEach [a] env)).any (·.1) = false := by intro _; rfl)
    (hall : ∀ env : Env, (backToKw pos (keywordEach [⟨some "default", b, kpos⟩] env)).all (·.1.isSome) = true := by intro _; rfl) (hnone : ∀ env : Env, (backToKw pos (keywordEach [⟨some "default", b, kpos⟩] env)).any (·.1.isNone) = false := by intro _; rfl)
    (hks : ∀ env : Env, (backToKw pos (keywordEach [⟨some "default", b, kpos⟩] env)).filterMap (·.1) = [Str.ofString "default"] := by intro _; rfl) :
    Ev g (.Call (.Name "max" p) [a] [⟨some "default", b, kpos⟩] pos) ρ B (.int (maxO ns dv)) B2 := by
  refine ⟨fun X hX => PE.imp (pe_callBK (cr_maxDef hX.calm hX.room.units) (hg.at hX) (by rw [hX.hm]; exact hm) (by decide +kernel) (pa_cons (ha.h X hX) pa_nil (hs X.env)) (pk_cons (hb.h X hX) pk_nil) (by decide) (by decide) (he X.env) (hpl X.env) (hall X.env) (hnone X.env) (hks X.env)) fun σ H Q ⟨c, F, R, q⟩ =>
    ⟨c, F, R, fun v H1 F1 R1 e1 hv _ => ⟨c, F1, R1, fun w H2 F2 R2 e2 hw _ => ?_⟩⟩⟩
  cases hw
  have hv2 : Rep g.T.K c.β F2 (.lst (ns.map .int)) v := Rep.mono e2 hv
  clear hv
  cases hv2 with
  | lst h1 h2 h3 =>
    cases h3.ints
    exact ⟨_, ns, dv, rfl, rfl, SqL.sub R2.sub h1, q _ H2 F2 R2 (e1.trans e2) (.int _) apart_d⟩
theorem ev_minDef {ns : List Int} {dv : Int} (hg : Glb g "min") (hm : g.T.mg "min" = none) (ha : Ev g a ρ B (.lst (ns.map .int)) B1) (hb : Ev g b ρ B1 (.int dv) B2)
    (hs : ∀ env : Env, starEach [a] env = (false, eval a env) :: starEach [] env := by intro _; rfl)
    (he : ∀ env : Env, backTo pos (starEach [a] env) = (false, eval a env) :: backTo pos (starEach [] env) := by intro _; rfl) (hpl : ∀ env : Env, (backTo pos (starEach [a] env)).any (·.1) = false := by intro _; rfl)
    (hall : ∀ env : Env, (backToKw pos (keywordEach [⟨some "default", b, kpos⟩] env)).all (·.1.isSome) = true := by intro _; rfl) (hnone : ∀ env : Env, (backToKw pos (keywordEach [⟨some "default", b, kpos⟩] env)).any (·.1.isNone) = false := by intro _; rfl)
    (hks : ∀ env : Env, (backToKw pos (keywordEach [⟨some "default", b, kpos⟩] env)).filterMap (·.1) = [Str.ofString "default"] := by intro _; rfl) :
    Ev g (.Call (.Name "min" p) [a] [⟨some "default", b, kpos⟩] pos) ρ B (.int (minO ns dv)) B2 := by
  refine ⟨fun X hX => PE.imp (pe_callBK (cr_minDef hX.calm hX.room.units) (hg.at hX) (by rw [hX.hm]; exact hm) (by decide +kernel) (pa_cons (ha.h X hX) pa_nil (hs X.env)) (pk_cons (hb.h X hX) pk_nil) (by decide) (by decide) (he X.env) (hpl X.env) (hall X.env) (hnone X.env) (hks X.env)) fun σ H Q ⟨c, F, R, q⟩ =>
    ⟨c, F, R, fun v H1 F1 R1 e1 hv _ => ⟨c, F1, R1, fun w H2 F2 R2 e2 hw _ => ?_⟩⟩⟩
  cases hw
  have hv2 : Rep g.T.K c.β F2 (.lst (ns.map .int)) v := Rep.mono e2 hv
  clear hv
  cases hv2 with
  | lst h1 h2 h3 =>
    cases h3.ints
    exact ⟨_, ns, dv, rfl, rfl, SqL.sub R2.sub h1, q _ H2 F2 R2 (e1.trans e2) (.int _) apart_d⟩

/-! ### sorted, min of data -/
theorem eachIs_of {α : Type} {K : PySem.W.Frag} {β : Option Addr} {F : Hp} (em : α → D) : ∀ {bs : List α} {vs : List V} {us : List Value}, RepAll K β F (bs.map em) vs → Vals vs us → PySem.W.EachIs (fun u b => ∃ v, RelV v u ∧ Rep K β F (em b) v) us bs
  | [], _, _, .nil, .nil => .nil
  | b :: bs, _, _, .cons h t, .cons r s => .cons ⟨_, r, h⟩ (eachIs_of em t s)
theorem eachIs_to {α : Type} {K : PySem.W.Frag} {β : Option Addr} {F : Hp} (em : α → D) : ∀ {bs : List α} {us : List Value}, PySem.W.EachIs (fun u b => ∃ v, RelV v u ∧ Rep K β F (em b) v) us bs → ∃ vs, RepAll K β F (bs.map em) vs ∧ Vals vs us
  | [], _, .nil => ⟨[], .nil, .nil⟩
  | b :: bs, _, .cons ⟨v, r, h⟩ t => by
    obtain ⟨vs, h1, h2⟩ := eachIs_to em t
    exact ⟨v :: vs, .cons h h1, .cons r h2⟩
theorem eachIs_imp {α β : Type} {R R' : α → β → Prop} (w : ∀ a b, R a b → R' a b) : ∀ {as : List α} {bs : List β}, PySem.W.EachIs R as bs → PySem.W.EachIs R' as bs
  | _, _, .nil => .nil
  | _, _, .cons h t => .cons (w _ _ h) (eachIs_imp w t)
theorem cr_sortData {X : Cx} {α : Type} (em : α → D) (enc : α → PyData) (bs : List α) (β : Option Addr) (F : Hp) (hpy : ∀ b, (em b).py = some (enc b)) (hal : PySem.W.AllAlike (bs.map enc)) (hk : PySem.W.Sortable (bs.map enc)) (hd : ∀ b, (enc b).depth ≤ 30) (hu : X.A.units + 64 < cLine) :
    CallR X (.builtin "sorted") (fun xs H Q => ∃ (a : Addr) (vs : List V), xs = [.ref a] ∧ SqL X.K H a vs ∧ RepAll X.K β F (bs.map em) vs ∧ Same F H ∧ ∀ (p : Addr) (ws : List V), H p = none → RepAll X.K β F ((bs.mergeSort (PySem.W.dataLe false enc)).map em) ws → ws.length ≤ sizeLine → Q (.ref p) (upd H p (.lst ws))) := by
  intro pins s σ H xs us Q I r h
  obtain ⟨a, vs, rfl, hs, hr, hsub, q⟩ := h
  obtain rfl := Vals.ref1 r
  obtain ⟨its, rv, hl, hz⟩ := I.list hs
  have hlen := hr.length
  rw [List.length_map] at hlen
  refine PySem.W.sorted_data (bs := bs) (enc := enc) hl.isList (eachIs_of em hr rv) (eachIs_imp (fun u b ⟨v, h1, h2⟩ => Dp.reads I _ _ _ (h2.py hsub (hpy b)) h1) (eachIs_of em hr rv)) hal hk (by rw [hlen]; exact hz) (fun b _ => by have := hd b; omega) fun out h1 h2 => ?_
  obtain ⟨ws, g1, g2⟩ := eachIs_to em h2
  obtain ⟨ep, he'⟩ := PyProof.Rows.sortedAll_at s.heap its out.toArray
  have hw : ws.length ≤ sizeLine := by
    rw [← g1.length, List.length_map, List.length_mergeSort, hlen]
    exact hz
  exact ⟨.ref _, upd H (s.heap.objs.size + 1) (.lst ws), I.laid (t' := s.toks) (fun _ _ => PyProof.Rows.sortedAll_old) (Nat.le_succ _) ⟨hw, out, ep, g2, he'⟩, rfl, q _ ws (I.hok.fresh (Nat.le_succ _)) g1 hw⟩
theorem k_sortD {α : Type} (em : α → D) (enc : α → PyData) (bs : List α) (hpy : ∀ b, (em b).py = some (enc b)) (hal : PySem.W.AllAlike (bs.map enc)) (hk : PySem.W.Sortable (bs.map enc)) (hd : ∀ b, (enc b).depth ≤ 30) :
    CallD g (.builtin "sorted") [.lst (bs.map em)] (.o (.l ((bs.mergeSort (PySem.W.dataLe false enc)).map em))) := by
  intro X hX
  refine ⟨fun xs H Q => ∃ (β : Option Addr) (F : Hp) (a : Addr) (vs : List V), xs = [.ref a] ∧ SqL X.K H a vs ∧ RepAll X.K β F (bs.map em) vs ∧ Same F H ∧ ∀ (p : Addr) (ws : List V), H p = none → RepAll X.K β F ((bs.mergeSort (PySem.W.dataLe false enc)).map em) ws → ws.length ≤ sizeLine → Q (.ref p) (upd H p (.lst ws)),
    fun pins s σ H xs us Q I r ⟨β, F, h⟩ => cr_sortData em enc bs β F hpy hal hk hd hX.room.units pins s σ H xs us Q I r h, fun c ρ B σ H F vs Q R hvs q => ?_⟩
  obtain ⟨v, rfl, h1⟩ := all1 hvs
  cases h1 with
  | lst h1 h2 h3 =>
    refine ⟨c.β, F, _, _, rfl, SqL.sub R.sub h1, by rw [hX.hK]; exact h3, R.sub, fun p ws np hw hz => ?_⟩
    rw [hX.hK] at hw
    exact q _ _ F (R.newO np) (Same.refl F) ⟨p, rfl, OwnAt.new' R np ⟨_, rfl, hz, hw⟩⟩ (R.apart np)
/-- min of a list of data -/
theorem cr_minData {X : Cx} {α : Type} (em : α → D) (enc : α → PyData) (b0 : α) (bs : List α) (r0 : α) (β : Option Addr) (F : Hp) (hpy : ∀ b, (em b).py = some (enc b)) (hal : PySem.W.AlikeAll ((b0 :: bs).map enc)) (hd : PyData.depthAll ((b0 :: bs).map enc) ≤ 30)
    (hm : PySem.W.minD (enc b0) (bs.map enc) = enc r0) (inj : ∀ b ∈ b0 :: bs, PySem.W.alike (enc b) (enc r0) = true → enc b = enc r0 → em b = em r0) (hc : X.calm = true) (hu : X.A.units + 64 < cLine) :
    CallR X (.builtin "min") (fun xs H Q => ∃ (a : Addr) (vs : List V), xs = [.ref a] ∧ SqL X.K H a vs ∧ RepAll X.K β F ((b0 :: bs).map em) vs ∧ Same F H ∧ ∀ v, Rep X.K β F (em r0) v → Q v H) := by
  intro pins s σ H xs us Q I r h
  obtain ⟨a, vs, rfl, hs, hr, hsub, q⟩ := h
  obtain rfl := Vals.ref1 r
  obtain ⟨its, rv, hl, hz⟩ := I.list hs
  have pys : ∀ l : List α, D.pys (l.map em) = some (l.map enc) := by
    intro l
    induction l with
    | nil => rfl
    | cons b l ih =>
      rw [List.map_cons, List.map_cons]
      unfold D.pys
      rw [hpy b, ih]
  obtain ⟨as, hrd⟩ := Dp.readsAll I _ _ _ (RepAll.py hsub hr (pys _)) rv
  refine PySem.W.min_list_data (I.ok.hd hc) hl.isList (x := enc b0) (xs := bs.map enc) hrd hal (by rw [List.map_cons] at hd; omega) fun i u h' tk bs' hv rd hk => ?_
  rw [hm] at rd
  have hv' : its[i]? = some u := by rw [← hv]; simp
  have hlen := rv.length
  obtain ⟨hi, _⟩ := List.getElem?_eq_some_iff.mp hv'
  have hx : vs[i]? = some vs[i] := List.getElem?_eq_getElem (by omega)
  obtain ⟨u', hu', ru⟩ := rv.get hx
  rw [hv'] at hu'
  cases hu'
  obtain ⟨d, hd1, hrep⟩ := hr.get' hx
  rw [List.getElem?_map] at hd1
  obtain ⟨b, hb, rfl⟩ := Option.map_eq_some_iff.mp hd1
  have hbm : b ∈ b0 :: bs := List.mem_of_getElem? hb
  have I2 : Inv X pins σ H { s with heap := h', toks := tk } := I.kept hk
  obtain ⟨as2, rd2⟩ := Dp.reads I2 _ _ _ (hrep.py hsub (hpy b)) ru
  have hr0 : enc r0 ∈ (b0 :: bs).map enc := by
    rw [← hm]
    unfold PySem.W.minD
    have : ∀ (l : List PyData) (x : PyData), l.foldl (fun a y => if PySem.W.dataLt y a then y else a) x ∈ x :: l := by
      intro l
      induction l with
      | nil => intro x; exact List.mem_cons_self
      | cons y l ih =>
        intro x
        rw [List.foldl_cons]
        have := ih (if PySem.W.dataLt y x then y else x)
        rcases List.mem_cons.mp this with e | e
        · rw [e]
          split
          · exact List.mem_cons_of_mem _ List.mem_cons_self
          · exact List.mem_cons_self
        · exact List.mem_cons_of_mem _ (List.mem_cons_of_mem _ e)
    exact this _ _
  have hab : PySem.W.alike (enc b) (enc r0) = true := hal.1 _ (List.mem_map.mpr ⟨b, hbm, rfl⟩) _ hr0
  have he : enc b = enc r0 := PySem.W.alike_unique _ _ _ _ _ hab rd2 rd
  refine ⟨vs[i], H, I2, ru, q _ ?_⟩
  rw [← inj b hbm hab he]
  exact hrep
theorem k_minD {α : Type} (em : α → D) (enc : α → PyData) (b0 : α) (bs : List α) (r0 : α) (hpy : ∀ b, (em b).py = some (enc b)) (hal : PySem.W.AlikeAll ((b0 :: bs).map enc)) (hd : PyData.depthAll ((b0 :: bs).map enc) ≤ 30)
    (hm : PySem.W.minD (enc b0) (bs.map enc) = enc r0) (inj : ∀ b ∈ b0 :: bs, enc b = enc r0 → em b = em r0) : CallD g (.builtin "min") [.lst ((b0 :: bs).map em)] (.d (em r0)) := by
  intro X hX
  refine ⟨fun xs H Q => ∃ (β : Option Addr) (F : Hp) (a : Addr) (vs : List V), xs = [.ref a] ∧ SqL X.K H a vs ∧ RepAll X.K β F ((b0 :: bs).map em) vs ∧ Same F H ∧ ∀ v, Rep X.K β F (em r0) v → Q v H,
    fun pins s σ H xs us Q I r ⟨β, F, h⟩ => cr_minData em enc b0 bs r0 β F hpy hal hd hm (fun b hb _ => inj b hb) hX.calm hX.room.units pins s σ H xs us Q I r h, fun c ρ B σ H F vs Q R hvs q => ?_⟩
  obtain ⟨v, rfl, h1⟩ := all1 hvs
  cases h1 with
  | lst h1 h2 h3 =>
    exact ⟨c.β, F, _, _, rfl, SqL.sub R.sub h1, by rw [hX.hK]; exact h3, R.sub, fun w hw => q _ H F R (Same.refl F) (by rw [hX.hK] at hw; exact hw) apart_d⟩
end
end PD
namespace PD
open PySem PySem.Spec PyProof.Rows L2 RZ

/-! ### {k: v for .. for ..}: two clauses, over the machine -/
section
variable {prog : Program} {w : World} {A : Around} {R : Result → Shared → Prop} {s : Shared} {kx vx t0 i0 t1 i1 : Expr} {if0 if1 : List Expr} {sc : Scope} {pos : Pos} {it : Value} {D : Addr} {env : Env}
abbrev dc2 (kx vx t0 i0 t1 i1 : Expr) (if0 if1 : List Expr) (sc : Scope) (pos : Pos) : Expr := .DictComp kx vx [⟨t0, i0, if0, 0⟩, ⟨t1, i1, if1, 0⟩] sc pos
theorem dc2_out (kx vx t0 i0 t1 i1 : Expr) (if0 if1 : List Expr) (sc : Scope) (pos : Pos) (it acc : Value) (env : Env) : compTurn (dc2 kx vx t0 i0 t1 i1 if0 if1 sc pos) 0 it acc env = (do
      standAt i0.pos
      match ← pyNext it with
      | none => pure (.done .next)
      | some v =>
        letOwnedTupleGo t0 it v
        assign t0 env v
        let mut ok := true
        for c in if0 do
          if ok then ok ← isTrue c env (eval c env)
        if ok then
          let x ← eval i1 env
          standAt i1.pos
          let x ← foldedSetIterable i1 env x
          let _ ← runOwn (.compStart (dc2 kx vx t0 i0 t1 i1 if0 if1 sc pos) 1 (← holding [x] (pyIter x)) acc env) env
        again (.compLoop (dc2 kx vx t0 i0 t1 i1 if0 if1 sc pos) 0 it acc env)) := by rfl
theorem dc2_in (kx vx t0 i0 t1 i1 : Expr) (if0 if1 : List Expr) (sc : Scope) (pos : Pos) (it : Value) (D : Addr) (env : Env) : compTurn (dc2 kx vx t0 i0 t1 i1 if0 if1 sc pos) 1 it (.ref D) env = (do
      standAt i1.pos
      match ← pyNext it with
      | none => pure (.done .next)
      | some v =>
        letOwnedTupleGo t1 it v
        assign t1 env v
        let mut ok := true
        for c in if1 do
          if ok then ok ← isTrue c env (eval c env)
        if ok then
          (do
            let kv ← eval kx env
            let vv ← holding [kv] (eval vx env)
            standAt { kx.pos with endLine := vx.pos.endLine, endCol := vx.pos.endCol }
            holding [kv, vv] (dictSet D kv vv))
        again (.compLoop (dc2 kx vx t0 i0 t1 i1 if0 if1 sc pos) 1 it (.ref D) env)) := by rfl
/-- nothing is raised -/
abbrev NoX : Value → Shared → Prop := fun _ _ => False
theorem noX {α : Type} {M : Model} {t : Sem α} {Q Q' : α → Shared → Prop} {E : Value → Shared → Prop} {s : Shared} (h : wpAny M A t Q NoX s) (w : ∀ a s, Q a s → Q' a s) : wpAny M A t Q' E s := wpAny_mono h w fun _ _ z => False.elim z
abbrev tests (ifs : List Expr) (env : Env) : Sem Bool := forIn ifs true fun c r => if r = true then do let ok ← isTrue c env (eval c env); pure (ForInStep.yield ok) else pure (ForInStep.yield r)
/-- the outer loop -/
theorem dc2_loop0 {acc : Value} (hs : ∀ x, foldedSetIterable i1 env x = pure x) (J : Nat → Shared → Prop)
    (turn : ∀ n s, J n s → wpAny (model prog w) A (pyNext it) (fun r a => match r with
      | none => R (.ok .next) a
      | some v => wpAny (model prog w) A (letOwnedTupleGo t0 it v) (fun _ b => wpAny (model prog w) A (assign t0 env v) (fun _ c => wpAny (model prog w) A (tests if0 env) (fun ok d =>
          if ok = true then wpAny (model prog w) A (eval i1 env) (fun x e => wpAny (model prog w) A (pyIter x) (fun it1 f =>
            codeAny (model prog w) A (.compStart (dc2 kx vx t0 i0 t1 i1 if0 if1 sc pos) 1 it1 acc env) (fun r z => match r with | .ok _ => ∃ m, m < n ∧ J m z | .error _ => False) f) NoX e) NoX d
          else ∃ m, m < n ∧ J m d) NoX c) NoX b) NoX a) NoX s)
    (n : Nat) (h : J n s) : codeAny (model prog w) A (.compLoop (dc2 kx vx t0 i0 t1 i1 if0 if1 sc pos) 0 it acc env) R s := by
  refine codeAny_loop rfl J (fun n s hJ => ?_) n h
  show wpAny _ A ((compTurn (dc2 kx vx t0 i0 t1 i1 if0 if1 sc pos) 0 it acc env).onRaise (fun x => do noteFrame x env; theTreesLotGoes x)) _ _ s
  refine wpAny_noted ?_
  rw [dc2_out]
  refine wpAny_bind (wpAny_standAt (wpAny_bind (noX (turn n s hJ) fun r a ha => ?_)))
  match r, ha with
  | none, ha => exact wpAny_pure ha
  | some v, ha =>
    refine wpAny_bind (noX ha fun _ b hb => wpAny_bind (noX hb fun _ c hc => wpAny_bind (noX hc fun ok d hd => ?_)))
    match ok, hd with
    | false, hd => exact wpAny_pure ⟨rfl, hd⟩
    | true, hd =>
      refine wpAny_bind (noX hd fun x e he => wpAny_bind (wpAny_standAt (wpAny_bind (wpAny_of_eq (hs x) (wpAny_bind (wpAny_holding (noX he fun it1 f hf => wpAny_bind (wpAny_runOwn ?_))))))))
      rw [Around.mark_none]
      refine codeAny_mono hf fun r z hz => ?_
      match r, hz with
      | .ok _, hz => exact wpAny_pure ⟨rfl, hz⟩
      | .error _, hz => exact hz.elim
/-- the inner loop -/
theorem dc2_loop1 (J : Nat → Shared → Prop)
    (turn : ∀ n s, J n s → wpAny (model prog w) A (pyNext it) (fun r a => match r with
      | none => R (.ok .next) a
      | some v => wpAny (model prog w) A (letOwnedTupleGo t1 it v) (fun _ b => wpAny (model prog w) A (assign t1 env v) (fun _ c => wpAny (model prog w) A (tests if1 env) (fun ok d =>
          if ok = true then wpAny (model prog w) A (eval kx env) (fun u e => wpAny (model prog w) A (eval vx env) (fun u2 f => wpAny (model prog w) A (dictSet D u u2) (fun _ z => ∃ m, m < n ∧ J m z) NoX f) NoX e) NoX d
          else ∃ m, m < n ∧ J m d) NoX c) NoX b) NoX a) NoX s)
    (n : Nat) (h : J n s) : codeAny (model prog w) A (.compLoop (dc2 kx vx t0 i0 t1 i1 if0 if1 sc pos) 1 it (.ref D) env) R s := by
  refine codeAny_loop rfl J (fun n s hJ => ?_) n h
  show wpAny _ A ((compTurn (dc2 kx vx t0 i0 t1 i1 if0 if1 sc pos) 1 it (.ref D) env).onRaise (fun x => do noteFrame x env; theTreesLotGoes x)) _ _ s
  refine wpAny_noted ?_
  rw [dc2_in]
  refine wpAny_bind (wpAny_standAt (wpAny_bind (noX (turn n s hJ) fun r a ha => ?_)))
  match r, ha with
  | none, ha => exact wpAny_pure ha
  | some v, ha =>
    refine wpAny_bind (noX ha fun _ b hb => wpAny_bind (noX hb fun _ c hc => wpAny_bind (noX hc fun ok d hd => ?_)))
    match ok, hd with
    | false, hd => exact wpAny_pure ⟨rfl, hd⟩
    | true, hd => exact wpAny_bind (wpAny_bind (noX hd fun u e he => wpAny_bind (wpAny_holding (noX he fun u2 f hf => wpAny_bind (wpAny_standAt (wpAny_holding (noX hf fun _ z hz => wpAny_pure ⟨rfl, hz⟩)))))))
theorem dc2_start1 {acc : Value} (h0 : codeAny (model prog w) A (.compLoop (dc2 kx vx t0 i0 t1 i1 if0 if1 sc pos) 1 it acc env) R s)
    (h : wpAny (model prog w) A (pyIter it) (fun it' s' => codeAny (model prog w) A (.compLoop (dc2 kx vx t0 i0 t1 i1 if0 if1 sc pos) 1 it' acc env) R s') NoX s) :
    codeAny (model prog w) A (.compStart (dc2 kx vx t0 i0 t1 i1 if0 if1 sc pos) 1 it acc env) R s := by
  refine codeAny_of_tree ?_
  show wpAny _ _ ((compStart (dc2 kx vx t0 i0 t1 i1 if0 if1 sc pos) 1 it acc env).onRaise (fun x => do noteFrame x env; standAt theWindowsPlace)) _ _ s
  refine wpAny_notedAt ?_
  unfold compStart
  show wpAny _ _ (ask >>= _) _ _ s
  refine wpAny_bind (wpAny_askSetting (wpAny_ite ?_))
  split
  · first
      | exact wpAny_pure (And.intro rfl h0)
      | exact wpAny_bind (wpAny_pure (wpAny_pure (And.intro rfl h0)))
  · first
      | exact wpAny_bind (wpAny_rule (wpAny_bind (wpAny_standAt (wpAny_bind (noX h fun it' s' h' => wpAny_pure (And.intro rfl h'))))))
      | (refine wpAny_bind (wpAny_rule ?_); show wpAny _ _ (standAt i1.pos >>= _) _ _ s; exact wpAny_bind (wpAny_standAt (wpAny_bind (noX h fun it' s' h' => wpAny_pure (And.intro rfl h')))))
end
end PD
namespace PD
open PySem PySem.Spec PyProof.Rows L2 RZ
section
variable {X : Cx}
/-- the reading of {k: v for .. for ..}; L: the new dict; N0, N1: what an outer, an inner turn is to reach -/
def tDc2 (wi : TI) (g : TG) (tt : TT) (wi1 : TI) (g1 : TG) (tt1 : TT) (tk tv : TE) (vs vs1 : List Nat) : TE := fun σ H Q => wi σ H fun J Ha => ∀ L, Ha L = none → ∃ W : Nat → Nat → Hp → Prop, (∃ m, W 0 m (upd Ha L (.dK []))) ∧ ∀ i m H, W i m H →
  (J.stop i H ∧ Q (.ref L) H) ∨ (J.go i H ∧ ∃ N0 : Hp → Prop, (∀ H', N0 H' → ∃ m', m' < m ∧ W (i + 1) m' H') ∧ ∀ x H', J.yld i H x H' → g x (wipe σ vs) H' fun σa Hb => wipe σa vs = wipe σ vs ∧ tt σa Hb fun b Hc =>
    if b = true then wi1 σa Hc fun J1 Hd => ∃ W1 : Nat → Nat → Hp → Prop, (∃ m, W1 0 m Hd) ∧ ∀ j k H, W1 j k H →
      (J1.stop j H ∧ N0 H) ∨ (J1.go j H ∧ ∃ N1 : Hp → Prop, (∀ H', N1 H' → ∃ k', k' < k ∧ W1 (j + 1) k' H') ∧ ∀ x H', J1.yld j H x H' → g1 x (wipe σa vs1) H' fun σb He => wipe σb vs1 = wipe σa vs1 ∧ tt1 σb He fun b Hf =>
        if b = true then tk σb Hf fun y Hg => tv σb Hg fun z Hh => ∃ kvs k, y = kV k ∧ Hh L = some (.dK kvs) ∧ kvs.length < sizeLine ∧ N1 (upd Hh L (.dK (putK kvs k z))) else N1 Hf)
    else N0 Hc)
theorem dc2_core {pins : List (Addr × Obj)} {s : Shared} {σ : L2.St} {H : Hp} {Q : VK} {kx vx tg iter tg1 iter1 : Expr} {ifs ifs1 : List Expr} {scope : Scope} {own : List (Str × Nat)} {vs1 : List Nat} {pos pos' : Pos} {wi wi1 : TI} {g g1 : TG} {tt tt1 : TT} {tk tv : TE} {use : Option (Value → Sem Unit)} {Qf : Value → Shared → Prop}
    (hc : X.calm = true) (hN : X.N.Nodup) (I : Inv X pins σ H s) (hi : PI X tg iter wi) (ok : BlkOk X.N X.env.scope scope own) (hv : ∀ i ∈ vs1, i ∈ own.map (·.2))
    (parts : ∀ (s : Shared) (H : Hp) (C : Addr) (cl : List (Str × Addr)) (fp : List Addr), let Y := X.blk s H scope (compEnvC scope cl C X.env) fp
      PG Y tg g ∧ PTs Y ifs tt ∧ PI Y tg1 iter1 wi1 ∧ PG Y tg1 g1 ∧ PTs Y ifs1 tt1 ∧ PE Y kx tk ∧ PE Y vx tv)
    (hs : ∀ x, foldedSetIterable iter X.env x = pure x) (hs1 : ∀ env x, foldedSetIterable iter1 env x = pure x)
    (h : tDc2 wi g tt wi1 g1 tt1 tk tv (own.map (·.2)) vs1 σ H Q)
    (hRR : ∀ L C s' m H', Inv X pins σ H' s' → Q (.ref L) H' → s'.heap.Ns C m → FpOk X pins H' C → compPost (model X.prog X.w) X.A X.xe use Qf (.ref L) C (.ok .next) s') :
    wpAny (model X.prog X.w) X.A (comprehension (dc2 kx vx tg iter tg1 iter1 ifs ifs1 scope pos) scope X.env pos' newDict false (eval iter X.env) use) Qf X.xe s := by
  have hfree : ∀ y ∈ scope.names, y.2 = .free → ∃ c, X.env.cells.lookup y.1 = some c := fun y hy e => (ok.free y hy e).elim (fun k => I.ok.has _ (.inl k)) fun k => I.ok.has _ (.inr k)
  refine wpAny_comprehension_free (use := use) rfl hs (closure_ok hfree) ok.kind (fun y hy e => by rw [ok.uniq y hy, e])
    (thn (hi.run pins s σ H _ I h) fun xv sa hx => thn hx fun itv sb hb => ?_)
  obtain ⟨it, fp, tn, J, Hb, rfl, Ib, T, stb, fb, q⟩ := hb
  refine wpAny_newObj_type (newEnv_comp ?_)
  generalize hL : sb.heap.objs.size = L
  obtain ⟨W, ⟨m0, w0⟩, turn⟩ := q L (Ib.hok.fresh (Nat.le_of_eq hL))
  -- the new dict stands
  generalize hsc : ({ sb with heap := sb.heap.push { cls := .type "dict", data := .dict #[] } } : Shared) = sc
  have hsc' : sc.heap = sb.heap.push { cls := .type "dict", data := .dict #[] } := by rw [← hsc]
  have Ic : Inv X pins σ (upd Hb L (.dK [])) sc := by
    rw [← hsc]
    refine Ib.laid (t' := sb.toks) (fun b o e => Heap.get?_push_of_some _ e) (Nat.le_of_eq hL) ?_
    rw [← hL]
    exact dk_empty sb.heap Ib.big
  have fc : ∀ b ∈ fp, FpOk X pins (upd Hb L (.dK [])) b ∧ b < sc.heap.objs.size := fun b hb => by
    obtain ⟨o, e, _⟩ := T.obj _ _ stb b hb
    have hlt := Heap.lt_size e
    refine ⟨⟨?_, (fb b hb).2⟩, by rw [hsc', Heap.size_push]; exact Nat.lt_succ_of_lt hlt⟩
    rw [upd_ne (by rw [← hL]; exact Nat.ne_of_lt hlt)]
    exact (fb b hb).1
  have stc : tn 0 sc.heap := T.keep _ _ _ stb fun b _ o e => by rw [hsc']; exact Heap.get?_push_of_some _ e
  have Id := block_start Ic ok hN fc
  have ps := parts sc (upd Hb L (.dK [])) sc.heap.objs.size (cellsFrom (sc.heap.objs.size + 1) scope.names (cloFrom X.env.cells scope.names [])) fp
  show codeAny _ _ (.compStart (dc2 kx vx tg iter tg1 iter1 ifs ifs1 scope pos) 0 (.ref it) (.ref L) (compEnvC scope (cellsFrom (sc.heap.objs.size + 1) scope.names (cloFrom X.env.cells scope.names [])) sc.heap.objs.size X.env)) (compPost (model X.prog X.w) X.A X.xe use Qf (.ref L) sc.heap.objs.size) { sc with heap := pushCells (sc.heap.push { cls := .type "dict", data := .dict #[] }) scope.names }
  generalize hce : compEnvC scope (cellsFrom (sc.heap.objs.size + 1) scope.names (cloFrom X.env.cells scope.names [])) sc.heap.objs.size X.env = ce at Id ps ⊢
  have cL : ce.locals = sc.heap.objs.size := by subst hce; rfl
  generalize hHc : upd Hb L (.dK []) = Hc at Ic Id ps w0 fc
  obtain ⟨pg, pt, pi1, pg1, pt1, pk, pe⟩ := ps
  generalize hsd : ({ sc with heap := pushCells (sc.heap.push { cls := .type "dict", data := .dict #[] }) scope.names } : Shared) = sd at Id ⊢
  have std : tn 0 sd.heap := T.keep _ _ _ stc fun b _ o e => by rw [← hsd]; exact pushCells_keeps _ _ _ _ (Heap.get?_push_of_some _ e)
  have stat : ∀ {σ' : L2.St} {H' : Hp} {s' : Shared}, Inv (X.blk sc Hc scope ce fp) [] σ' H' s' → (∀ b ∈ fp, H' b = none) → ∀ b ∈ fp, FpOk (X.blk sc Hc scope ce fp) [] H' b := fun {σ' H' s'} I' hn b hb =>
    ⟨hn b hb, (I'.ok.exf b hb).1, I'.ok.exfs b hb, .inl hb, fun x c e => (I'.ok.exf b hb).2 x c e, fun p hp => absurd (show p ∈ ([] : List (Addr × Obj)) ++ [] from hp) (by simp)⟩
  -- what holds ahead of each outer turn
  let Out : Nat → Shared → Prop := fun n s' => ∃ i H', Inv (X.blk sc Hc scope ce fp) [] (wipe σ (own.map (·.2))) H' s' ∧ tn i s'.heap ∧ (∀ b ∈ fp, H' b = none) ∧ W i n H'
  have loop : codeAny (model X.prog X.w) X.A (.compLoop (dc2 kx vx tg iter tg1 iter1 ifs ifs1 scope pos) 0 (.ref it) (.ref L) ce) (compPost (model X.prog X.w) X.A X.xe use Qf (.ref L) sc.heap.objs.size) sd := by
    refine dc2_loop0 (hs1 ce) Out ?_ m0 ⟨0, Hc, Id, std, fun b hb => (fc b hb).1.1, w0⟩
    rintro n s5 ⟨i, H5, I5, st5, n5, w5⟩
    rcases turn i n H5 w5 with ⟨stop, qq⟩ | ⟨go, N0, hN0, step⟩
    · refine thnF (T.done (X.blk sc Hc scope ce fp) rfl rfl rfl hc i [] s5 _ H5 NoX I5 (stat I5 n5) st5 stop) fun r s6 ⟨hr, I6⟩ => ?_
      subst hr
      have I7 : Inv X pins σ H5 s6 := Ic.call' (ch := fp) I6.os I6.base I6.hok I6.bare fun b hb => let z := (fc b hb).1.2; ⟨z.2.2.1, z.1, z.2.2.2.1, z.2.2.2.2⟩
      have nC : H5 sc.heap.objs.size = none := by rw [← cL]; exact I6.free
      obtain ⟨m, hn, _⟩ := I6.loc
      exact hRR L sc.heap.objs.size s6 m H5 I7 qq (by rw [← cL]; exact hn) (Ic.fpOk (Nat.le_refl _) nC)
    · refine thnF (T.item (X.blk sc Hc scope ce fp) rfl rfl rfl hc i [] s5 _ H5 NoX I5 (stat I5 n5) st5 go) fun r s6 ⟨u, hr, h6⟩ => ?_
      subst hr
      refine thnF h6 fun _ s7 ⟨x, H7, I7, r7, y7, st7, n7⟩ => ?_
      refine thnF (pg.run _ s7 _ H7 x u _ (I7.pinned (stat I7 n7) (T.obj _ _ st7)) r7 (step x H7 y7)) fun _ s8 ⟨σ8, H8, I8, hw8, q8⟩ => ?_
      refine thnF (pt.run _ s8 σ8 H8 _ I8 q8) fun b s9 ⟨H9, I9, q9⟩ => ?_
      -- back ahead of the next outer turn, from slots that still know what the block knew
      have next : ∀ {σ9 : L2.St} {s' : Shared} {H' : Hp}, Inv (X.blk sc Hc scope ce fp) ([] ++ pinsAt fp s7.heap) σ9 H' s' → (wipe σ (own.map (·.2))).length = σ9.length → (∀ (j : Nat) v, (wipe σ (own.map (·.2)))[j]? = some (some v) → σ9[j]? = some (some v)) → N0 H' → ∃ m, m < n ∧ Out m s' := fun {σ9 s' H'} I' hl hk nx => by
        obtain ⟨m', hm, w'⟩ := hN0 H' nx
        have pin' : ∀ b ∈ fp, ∀ o, s7.heap.get? b = some o → s'.heap.get? b = some o ∧ H' b = none := fun b hb o e =>
          let z := I'.pin (b, o) (List.mem_append_right _ (List.mem_append_right _ (mem_pinsAt hb e)))
          ⟨z.1, z.2.1⟩
        refine ⟨m', hm, i + 1, H', (I'.unpinned (pins := [])).weak hl hk, T.keep _ _ _ st7 fun b hb o e => (pin' b hb o e).1, fun b hb => ?_, w'⟩
        obtain ⟨o, e, _⟩ := T.obj _ _ st7 b hb
        exact (pin' b hb o e).2
      have hl8 : (wipe σ (own.map (·.2))).length = σ8.length := by rw [← hw8, wipe_length]
      have hk8 : ∀ (j : Nat) v, (wipe σ (own.map (·.2)))[j]? = some (some v) → σ8[j]? = some (some v) ∧ j ∉ own.map (·.2) := fun j v e => by rw [← hw8] at e; exact wipe_some e
      match b, q9 with
      | false, q9 =>
        simp only [Bool.false_eq_true, if_false] at q9 ⊢
        exact next I9 hl8 (fun j v e => (hk8 j v e).1) q9
      | true, q9 =>
        simp only [if_true] at q9 ⊢
        refine thnF (pi1.run _ s9 σ8 H9 _ I9 q9) fun xv s10 hx => thnF hx fun itv s11 h11 => ?_
        obtain ⟨it1, fp1, tn1, J1, H11, rfl, I11, T1, st11, f11, W1, ⟨m1, w1⟩, turn1⟩ := h11
        have stat1 : ∀ {H' : Hp}, (∀ b ∈ fp1, H' b = none) → ∀ b ∈ fp1, FpOk (X.blk sc Hc scope ce fp) ([] ++ pinsAt fp s7.heap) H' b := fun hn b hb => ⟨hn b hb, (f11 b hb).2⟩
        let Inn : Nat → Shared → Prop := fun k s' => ∃ j H', Inv (X.blk sc Hc scope ce fp) ([] ++ pinsAt fp s7.heap) (wipe σ8 vs1) H' s' ∧ tn1 j s'.heap ∧ (∀ b ∈ fp1, H' b = none) ∧ W1 j k H'
        have inner : codeAny (model X.prog X.w) X.A (.compLoop (dc2 kx vx tg iter tg1 iter1 ifs ifs1 scope pos) 1 (.ref it1) (.ref L) ce) (fun r z => match r with | .ok _ => ∃ m, m < n ∧ Out m z | .error _ => False) s11 := by
          refine dc2_loop1 Inn ?_ m1 ⟨0, H11, I11.weak (wipe_length _ _) (fun j v e => (wipe_some e).1), st11, fun b hb => (f11 b hb).1, w1⟩
          rintro k s12 ⟨j, H12, I12, st12, n12, w12⟩
          rcases turn1 j k H12 w12 with ⟨stop1, nx1⟩ | ⟨go1, N1, hN1, step1⟩
          · refine thnF (T1.done (X.blk sc Hc scope ce fp) rfl rfl rfl hc j _ s12 (wipe σ8 vs1) H12 NoX I12 (stat1 n12) st12 stop1) fun r s13 ⟨hr, I13⟩ => ?_
            subst hr
            refine next I13 (hl8.trans (wipe_length σ8 vs1).symm) (fun j v e => ?_) nx1
            obtain ⟨e1, e2⟩ := hk8 j v e
            rw [wipe_out fun z => e2 (hv j z)]
            exact e1
          · refine thnF (T1.item (X.blk sc Hc scope ce fp) rfl rfl rfl hc j _ s12 (wipe σ8 vs1) H12 NoX I12 (stat1 n12) st12 go1) fun r s13 ⟨u1, hr, h13⟩ => ?_
            subst hr
            refine thnF h13 fun _ s14 ⟨x1, H14, I14, r14, y14, st14, n14⟩ => ?_
            refine thnF (pg1.run _ s14 (wipe σ8 vs1) H14 x1 u1 _ (I14.pinned (stat1 n14) (T1.obj _ _ st14)) r14 (step1 x1 H14 y14)) fun _ s15 ⟨σ15, H15, I15, hw15, q15⟩ => ?_
            refine thnF (pt1.run _ s15 σ15 H15 _ I15 q15) fun b1 s16 ⟨H16, I16, q16⟩ => ?_
            have next1 : ∀ {s' : Shared} {H' : Hp}, Inv (X.blk sc Hc scope ce fp) (([] ++ pinsAt fp s7.heap) ++ pinsAt fp1 s14.heap) σ15 H' s' → N1 H' → ∃ m, m < k ∧ Inn m s' := fun {s' H'} I' nx => by
              obtain ⟨m', hm, w'⟩ := hN1 H' nx
              have pin' : ∀ b ∈ fp1, ∀ o, s14.heap.get? b = some o → s'.heap.get? b = some o ∧ H' b = none := fun b hb o e =>
                let z := I'.pin (b, o) (List.mem_append_right _ (List.mem_append_right _ (mem_pinsAt hb e)))
                ⟨z.1, z.2.1⟩
              refine ⟨m', hm, j + 1, H', I'.unpinned.weak (by rw [← hw15, wipe_length]) (fun j v e => by rw [← hw15] at e; exact (wipe_some e).1), T1.keep _ _ _ st14 fun b hb o e => (pin' b hb o e).1, fun b hb => ?_, w'⟩
              obtain ⟨o, e, _⟩ := T1.obj _ _ st14 b hb
              exact (pin' b hb o e).2
            match b1, q16 with
            | false, q16 =>
              simp only [Bool.false_eq_true, if_false] at q16 ⊢
              exact next1 I16 q16
            | true, q16 =>
              simp only [if_true] at q16 ⊢
              refine thnF (pk.run _ s16 σ15 H16 _ I16 q16) fun u s17 ⟨y, H17, I17, r17, q17⟩ => ?_
              refine thnF (pe.run _ s17 σ15 H17 _ I17 q17) fun u2 s18 ⟨z, H18, I18, r18, kvs, key, hy, hD, hz, nx⟩ => ?_
              subst hy
              exact d_dictSet (X := X.blk sc Hc scope ce fp) I18 hD hz r17 r18 fun s19 I19 => next1 I19 nx
        exact dc2_start1 inner (T1.self X.A 0 _ _ _ st11 inner)
  exact codeAny_compStart_dict loop (T.self X.A 0 _ _ _ std loop)
end
end PD
namespace PD
open PySem PySem.Spec PyProof.Rows L2 RZ

/-! ### dicts of marks: int keys, all True -/
def keysD (ks : List Int) : List (Key × D) := ks.map fun k => (Sum.inl k, D.bl true)
def keysV (ks : List Int) : List (Key × V) := ks.map fun k => (Sum.inl k, V.bl true)
def insK (ks : List Int) (k : Int) : List Int := if k ∈ ks then ks else ks ++ [k]
theorem keysV_any (ks : List Int) (k : Int) : ((keysV ks).any fun kv => decide (kv.1 = Sum.inl k)) = decide (k ∈ ks) := by
  induction ks with
  | nil => rfl
  | cons j ks ih =>
    unfold keysV at ih ⊢
    rw [List.map_cons, List.any_cons, ih]
    have e : decide ((Sum.inl j : Key) = Sum.inl k) = decide (k = j) := decide_eq_decide.mpr ⟨fun h => (Sum.inl.inj h).symm, fun h => by rw [h]⟩
    show (decide ((Sum.inl j : Key) = Sum.inl k) || _) = _
    rw [e, ← Bool.decide_or]
    exact decide_eq_decide.mpr List.mem_cons.symm
theorem putK_keys (ks : List Int) (k : Int) : putK (keysV ks) (Sum.inl k) (.bl true) = keysV (insK ks k) := by
  unfold putK insK
  rw [keysV_any]
  by_cases h : k ∈ ks
  · rw [decide_eq_true h, if_pos rfl, if_pos h]
    unfold keysV
    rw [List.map_map]
    refine List.map_congr_left fun j _ => ?_
    show (if (Sum.inl j : Key) = Sum.inl k then ((Sum.inl j : Key), V.bl true) else (Sum.inl j, V.bl true)) = _
    split <;> rfl
  · rw [decide_eq_false h, if_neg Bool.false_ne_true, if_neg h]
    unfold keysV
    rw [List.map_append]
    rfl
theorem insK_len (ks : List Int) (k : Int) : (insK ks k).length ≤ ks.length + 1 := by
  unfold insK
  split
  · omega
  · rw [List.length_append]; simp
theorem zmap {α β γ : Type} (f : α → β) (h : α → γ) : ∀ ks : List α, (ks.map f).zip (ks.map h) = ks.map fun k => (f k, h k)
  | [] => rfl
  | k :: ks => by rw [List.map_cons, List.map_cons, List.zip_cons_cons, zmap f h ks, List.map_cons]
theorem ct_keys {K : PySem.W.Frag} {β : Option Addr} {F : Hp} {ks : List Int} (h : ks.length ≤ sizeLine) : CtOk K β F (.m (keysD ks)) (.dK (keysV ks)) := by
  refine ⟨ks.map Sum.inl, ks.map fun _ => .bl true, ks.map fun _ => .bl true, ?_, ?_, by rw [List.length_map, List.length_map], by rw [List.length_map]; exact h, ?_⟩
  · rw [zmap]; rfl
  · rw [zmap]; rfl
  · induction ks with
    | nil => exact .nil
    | cons k ks ih => exact .cons (.bl true) (ih (by rw [List.length_cons] at h; omega))
theorem keys_of_zip {α : Type} : ∀ {ks : List Int} {js : List Key} {ds : List D} {vs : List α}, keysD ks = js.zip ds → js.length = vs.length → ds.length = vs.length → js = ks.map Sum.inl ∧ ds = ks.map fun _ => D.bl true
  | [], [], [], _, _, _, _ => ⟨rfl, rfl⟩
  | [], [], _ :: _, vs, _, h1, h2 => by rw [← h1] at h2; cases h2
  | [], _ :: _, [], vs, _, h1, h2 => by rw [← h2] at h1; cases h1
  | k :: ks, [], ds, _, h, _, _ => by cases ds <;> cases h
  | k :: ks, _ :: _, [], _, h, _, _ => by cases h
  | k :: ks, j :: js, d :: ds, v :: vs, h, h1, h2 => by
    have h : (Sum.inl k, D.bl true) :: keysD ks = (j, d) :: js.zip ds := h
    injection h with e1 e2
    cases e1
    obtain ⟨r1, r2⟩ := keys_of_zip (vs := vs) e2 (by simpa using h1) (by simpa using h2)
    rw [r1, r2]
    exact ⟨rfl, rfl⟩
  | _ :: _, _ :: _, _ :: _, [], _, h1, _ => by cases h1
theorem keys_rep {K : PySem.W.Frag} {β : Option Addr} {F : Hp} : ∀ {ks : List Int} {vs : List V}, RepAll K β F (ks.map fun _ => D.bl true) vs → (ks.map (Sum.inl : Int → Key)).zip vs = keysV ks
  | [], _, .nil => rfl
  | k :: ks, _, .cons h t => by
    cases h
    rw [List.map_cons, List.zip_cons_cons, keys_rep t]
    rfl
theorem ct_keys_inv {K : PySem.W.Frag} {β : Option Addr} {F : Hp} {ks : List Int} {ho : HO} (h : CtOk K β F (.m (keysD ks)) ho) : ho = .dK (keysV ks) ∧ ks.length ≤ sizeLine := by
  obtain ⟨js, ds, vs, h1, h2, h3, h4, h5⟩ := h
  obtain ⟨rfl, rfl⟩ := keys_of_zip h2 h3 (h5.length)
  rw [List.length_map] at h4
  exact ⟨by rw [h1, keys_rep h5], h4⟩
theorem rep_keys_inv {K : PySem.W.Frag} {β : Option Addr} {F : Hp} {ks : List Int} {v : V} (h : Rep K β F (.dct (keysD ks)) v) : ∃ a, v = .ref a ∧ F a = some (.dK (keysV ks)) ∧ ks.length ≤ sizeLine := by
  cases h with
  | @dct a _ js ds kws vs h1 h2 h3 h4 h5 h6 =>
    obtain ⟨rfl, rfl⟩ := keys_of_zip h3 h5 (h6.length)
    subst h4
    rw [keys_rep h6] at h1 h2
    refine ⟨_, rfl, h1, ?_⟩
    unfold keysV at h2
    rw [List.length_map] at h2
    exact h2

section
variable {g : G} {ρ ρb : Rho} {B B1 B2 B3 : Bag} {a b e tg iter tg1 iter1 elt kx : Expr} {pos p kpos : Pos} {x y z d : D} {es elts ifs ifs1 : List Expr} {ds : List D} {n : Str} {scope : Scope} {own : List (Str × Nat)}
abbrev tTrue : TE := tC (.bl true)
/-- one clause -/
theorem dc_read {out : List Int} {wi : TI} {σ : L2.St} {H : Hp} {Q : VK} (hρ : noOwn (fgt ρ (own.map (·.2))) = ρb)
    (qi : ∀ (c : C0) (σ : L2.St) (H F : Hp) (Re : It → Hp → Prop), Rel g.T.K c ρ B σ H F → (∀ J H1 F1, Rel g.T.K c ρ B1 σ H1 F1 → Same F F1 → WalkD g.T.K c.β J ds F1 → Re J H1) → wi σ H Re)
    (run : LcRun (LcTurn (blkG g scope) tg kx ifs ρb (own.map (·.2))) ds B1 (out.map .int) B2) (hlen : ds.length ≤ 1000000) (h : tEv g.T.K ρ B (.o (.m (keysD (out.foldl insK [])))) B2 σ H Q) :
    tDc wi (rdG (blkG g scope) tg) (rdT (blkG g scope) ifs) (rdE (blkG g scope) kx) tTrue (own.map (·.2)) σ H Q := by
  have hz : (sizeLine : Nat) = 16777216 := sizeLine_eq
  obtain ⟨c, F, R, q⟩ := h
  refine qi c σ H F _ R fun J1 H1 F1 R1 e1 w => ?_
  intro L nL
  have n0 : c.H0 L = none := R1.H0_none nL
  have hap : ∀ (i : Nat) (ct : Ct) (q : Addr), ρ[i]? = some (.o ct) → σ[i]? = some (some (.ref q)) → q ≠ L := fun i ct p h1 h2 z => R1.apart (r := .o ct) nL ct rfl i ct p h1 h2 (by rw [z])
  refine ⟨fun i m H' => m = ds.length - i ∧ i ≤ ds.length ∧ ∃ (F' : Hp) (ks : List Int) (Bi : Bag) (rest : List Int), Rel g.T.K c ρ Bi σ H' F' ∧ Same F1 F' ∧ H' L = some (.dK (keysV ks)) ∧ F' L = none ∧ ks.length ≤ i ∧
      LcRun (LcTurn (blkG g scope) tg kx ifs ρb (own.map (·.2))) (ds.drop i) Bi (rest.map .int) B2 ∧ rest.foldl insK ks = out.foldl insK [], ⟨_, rfl, Nat.zero_le _, F1, [], B1, out, R1.newO nL, Same.refl F1, upd_same, R1.F_none nL, Nat.zero_le _, run, rfl⟩, ?_⟩
  rintro i m H' ⟨rfl, hle, F', ks, Bi, rest, R', e', hD, nF, hkl, hrun, hout⟩
  by_cases hlt : i < ds.length
  · have nb : some L ≠ c.β := R'.H_none n0
    refine .inr ⟨w.goes i H' hlt (e'.trans R'.sub), fun H2 => ∃ (F2 : Hp) (ks : List Int) (Bi : Bag) (rest : List Int), Rel g.T.K c ρ Bi σ H2 F2 ∧ Same F1 F2 ∧ H2 L = some (.dK (keysV ks)) ∧ F2 L = none ∧ ks.length ≤ i + 1 ∧
      LcRun (LcTurn (blkG g scope) tg kx ifs ρb (own.map (·.2))) (ds.drop (i + 1)) Bi (rest.map .int) B2 ∧ rest.foldl insK ks = out.foldl insK [], fun H2 h2 => ⟨ds.length - (i + 1), by omega, rfl, hlt, h2⟩, fun v H2 y => ?_⟩
    have Rb : Rel g.T.K ⟨c.β, H', F'⟩ ρb Bi (wipe σ (own.map (·.2))) H' F' := by
      rw [← hρ]
      exact (R'.fgt _).enter
    obtain ⟨d, F2, hd, R2, e2, hrep⟩ := walk_step (c := ⟨c.β, H', F'⟩) w Rb e' hlt y
    have hdrop : ds.drop i = d :: ds.drop (i + 1) := by
      obtain ⟨hl, he⟩ := List.getElem?_eq_some_iff.mp hd
      rw [List.drop_eq_getElem_cons hl, he]
    rw [hdrop] at hrun
    have keepL : ∀ {ρ2 : Rho} {B2 : Bag} {σ2 : L2.St} {H3 F3 : Hp}, Rel g.T.K ⟨c.β, H', F'⟩ ρ2 B2 σ2 H3 F3 → H3 L = some (.dK (keysV ks)) ∧ F3 L = none := fun R3 =>
      ⟨R3.fr L _ nb (fun _ z => (nomatch z)) hD, R3.dj L (by show H' L ≠ none; rw [hD]; exact fun z => nomatch z) nF⟩
    generalize hrm : rest.map D.int = rm at hrun
    cases hrun with
    | @keep _ yy _ out' _ Bb _ hS hrest =>
      cases rest with
      | nil => cases hrm
      | cons k rest =>
        injection hrm with hk hrm
        subst hk hrm
        obtain ⟨ρ', js, b, Bm, ht, hjs, htt, hbt, hel⟩ := hS
        subst hbt
        refine ⟨ρb, d, ρ', js, ht, _, Bi, F2, R2, hrep, fun σ3 R3 hw => ⟨(hw _ hjs).trans wipe_wipe, ρ', Bi, true, Bm, htt, _, F2, R3, fun H4 F4 R4 e4 => iteT ⟨ρ', Bm, .int k, Bb, hel, _, F4, R4, fun u H5 F5 R5 e5 hu _ => ?_⟩⟩⟩
        cases hu
        obtain ⟨hD5, nF5⟩ := keepL R5
        refine ⟨keysV ks, Sum.inl k, rfl, hD5, by unfold keysV; rw [List.length_map]; omega, ?_⟩
        rw [putK_keys]
        exact ⟨F5, insK ks k, Bb, rest, (R'.leave R5).wr ⟨_, hD5, rfl⟩ n0 nF5 hap, e'.trans ((e2.trans e4).trans e5), upd_same, nF5, by have := insK_len ks k; omega, hrest, hout⟩
    | @drop _ _ _ _ Bb _ hS hrest =>
      subst hrm
      obtain ⟨ρ', js, b, Bm, ht, hjs, htt, hbt, hel⟩ := hS
      subst hbt hel
      refine ⟨ρb, d, ρ', js, ht, _, Bi, F2, R2, hrep, fun σ3 R3 hw => ⟨(hw _ hjs).trans wipe_wipe, ρ', Bi, false, Bb, htt, _, F2, R3, fun H4 F4 R4 e4 => iteF ?_⟩⟩
      obtain ⟨hD4, nF4⟩ := keepL R4
      exact ⟨F4, ks, Bb, rest, R'.leave R4, (e'.trans e2).trans e4, hD4, nF4, by omega, hrest, hout⟩
  · have hie : i = ds.length := by omega
    subst hie
    rw [List.drop_length] at hrun
    generalize hrm : rest.map D.int = rm at hrun
    cases hrun
    rw [List.map_eq_nil_iff.mp hrm] at hout
    have hout' : ks = out.foldl insK [] := hout
    rw [← hout'] at q
    exact .inl ⟨w.stops H' (e'.trans R'.sub), q (.ref L) H' F' R' (e1.trans e') ⟨L, rfl, ⟨_, hD, ct_keys (by omega)⟩, n0, nF⟩ fun _ _ i ct p h1 h2 z => hap i ct p h1 h2 (V.ref.inj z).symm⟩
theorem evr_dc {out : List Int} {j : Nat} {pv : Pos} (hi : ItD g tg iter ρ B ds B1) (ok : blkC g.N g.sc scope own = true) (hρ : noOwn (fgt ρ (own.map (·.2))) = ρb)
    (run : LcRun (LcTurn (blkG g scope) tg kx ifs ρb (own.map (·.2))) ds B1 (out.map .int) B2) (hlen : ds.length ≤ 1000000)
    (hf : ∀ (env : Env) x, foldedSetIterable iter env x = pure x := by intro _ _; rfl) : EvR g (.DictComp kx (.Constant (.bool true) j pv) [⟨tg, iter, ifs, 0⟩] scope pos) ρ B (.o (.m (keysD (out.foldl insK [])))) B2 := by
  refine ⟨fun X hX => ?_⟩
  obtain ⟨wi, pi, qi⟩ := hi.h X hX
  have okX : BlkOk X.N X.env.scope scope own := by rw [hX.hN, hX.hs]; exact blkOk_by ok
  have ndX : X.N.Nodup := by rw [hX.hN]; exact hX.nd
  exact PE.imp (pe_dc hX.calm ndX pi okX (fun s H C cl fp => rdG_ok (hX.blk scope s H C cl fp)) (fun s H C cl fp => rdT_ok (hX.blk scope s H C cl fp)) (fun s H C cl fp => rdE_ok (hX.blk scope s H C cl fp)) (fun s H C cl fp => pe_bl) (hf X.env)) fun σ H Q h => dc_read hρ qi run hlen h

/-! ### two clauses -/
/-- an outer turn: out it puts -/
def L2Turn (g : G) (tg tg1 iter1 elt : Expr) (ifs ifs1 : List Expr) (ρ : Rho) (is vs1 : List Nat) (d : D) (Ba : Bag) (out : List D) (Bb : Bag) : Prop :=
  ∃ ρ' js b Bm, Tg g tg ρ d ρ' js ∧ (∀ i ∈ js, i ∈ is) ∧ TsL g ifs ρ' Ba b Bm ∧ (b = false → out = [] ∧ Bb = Bm) ∧
    (b = true → ∃ ds1 Bn ρ1, ItD g tg1 iter1 ρ' Bm ds1 Bn ∧ noOwn (fgt ρ' vs1) = ρ1 ∧ LcRun (LcTurn g tg1 elt ifs1 ρ1 vs1) ds1 Bn out Bb ∧ ds1.length ≤ 1000)
inductive L2Run (S : D → Bag → List D → Bag → Prop) : List D → Bag → List D → Bag → Prop
  | nil {B : Bag} : L2Run S [] B [] B
  | cons {d : D} {ds o1 out : List D} {B B1 B2 : Bag} : S d B o1 B1 → L2Run S ds B1 out B2 → L2Run S (d :: ds) B (o1 ++ out) B2
/-- the sources of the inner clause, at whatever state they are told -/
def rdI (g : G) (tg1 iter1 : Expr) : TI := fun σ H Re => ∃ ρ' Bm ds1 Bn, ItD g tg1 iter1 ρ' Bm ds1 Bn ∧ ∃ c F, Rel g.T.K c ρ' Bm σ H F ∧ ∀ J H1 F1, Rel g.T.K c ρ' Bn σ H1 F1 → Same F F1 → WalkD g.T.K c.β J ds1 F1 → Re J H1
theorem rdI_ok {X : Cx} (hX : At g X) : PI X tg1 iter1 (rdI g tg1 iter1) := ⟨fun pins s σ H Re I ⟨ρ', Bm, ds1, Bn, hi, c, F, R, q⟩ => by
  obtain ⟨wi, pi, qi⟩ := hi.h X hX
  exact pi.run pins s σ H Re I (qi c σ H F Re R q)⟩
theorem keysL {ks : List Int} : (keysV ks).length = ks.length := by unfold keysV; rw [List.length_map]
theorem dc2_read {out : List Int} {wi : TI} {σ : L2.St} {H : Hp} {Q : VK} {vs1 : List Nat} (hρ : noOwn (fgt ρ (own.map (·.2))) = ρb) (hvs : ∀ i ∈ vs1, i ∈ own.map (·.2))
    (qi : ∀ (c : C0) (σ : L2.St) (H F : Hp) (Re : It → Hp → Prop), Rel g.T.K c ρ B σ H F → (∀ J H1 F1, Rel g.T.K c ρ B1 σ H1 F1 → Same F F1 → WalkD g.T.K c.β J ds F1 → Re J H1) → wi σ H Re)
    (run : L2Run (L2Turn (blkG g scope) tg tg1 iter1 kx ifs ifs1 ρb (own.map (·.2)) vs1) ds B1 (out.map .int) B2) (hlen : ds.length ≤ 1000) (h : tEv g.T.K ρ B (.o (.m (keysD (out.foldl insK [])))) B2 σ H Q) :
    tDc2 wi (rdG (blkG g scope) tg) (rdT (blkG g scope) ifs) (rdI (blkG g scope) tg1 iter1) (rdG (blkG g scope) tg1) (rdT (blkG g scope) ifs1) (rdE (blkG g scope) kx) tTrue (own.map (·.2)) vs1 σ H Q := by
  have hz : (sizeLine : Nat) = 16777216 := sizeLine_eq
  obtain ⟨c, F, R, q⟩ := h
  refine qi c σ H F _ R fun J1 H1 F1 R1 e1 w => ?_
  intro L nL
  have n0 : c.H0 L = none := R1.H0_none nL
  have hap : ∀ (i : Nat) (ct : Ct) (q : Addr), ρ[i]? = some (.o ct) → σ[i]? = some (some (.ref q)) → q ≠ L := fun i ct p h1 h2 z => R1.apart (r := .o ct) nL ct rfl i ct p h1 h2 (by rw [z])
  refine ⟨fun i m H' => m = ds.length - i ∧ i ≤ ds.length ∧ ∃ (F' : Hp) (ks : List Int) (Bi : Bag) (rest : List Int), Rel g.T.K c ρ Bi σ H' F' ∧ Same F1 F' ∧ H' L = some (.dK (keysV ks)) ∧ F' L = none ∧ ks.length ≤ i * 1000 ∧
      L2Run (L2Turn (blkG g scope) tg tg1 iter1 kx ifs ifs1 ρb (own.map (·.2)) vs1) (ds.drop i) Bi (rest.map .int) B2 ∧ rest.foldl insK ks = out.foldl insK [], ⟨_, rfl, Nat.zero_le _, F1, [], B1, out, R1.newO nL, Same.refl F1, upd_same, R1.F_none nL, Nat.zero_le _, run, rfl⟩, ?_⟩
  rintro i m H' ⟨rfl, hle, F', ks, Bi, rest, R', e', hD, nF, hkl, hrun, hout⟩
  by_cases hlt : i < ds.length
  · have nb : some L ≠ c.β := R'.H_none n0
    have nL' : H' L ≠ none := by rw [hD]; exact fun z => nomatch z
    refine .inr ⟨w.goes i H' hlt (e'.trans R'.sub), fun H2 => ∃ (F2 : Hp) (ks : List Int) (Bi : Bag) (rest : List Int), Rel g.T.K c ρ Bi σ H2 F2 ∧ Same F1 F2 ∧ H2 L = some (.dK (keysV ks)) ∧ F2 L = none ∧ ks.length ≤ (i + 1) * 1000 ∧
      L2Run (L2Turn (blkG g scope) tg tg1 iter1 kx ifs ifs1 ρb (own.map (·.2)) vs1) (ds.drop (i + 1)) Bi (rest.map .int) B2 ∧ rest.foldl insK ks = out.foldl insK [], fun H2 h2 => ⟨ds.length - (i + 1), by omega, rfl, hlt, h2⟩, fun v H2 y => ?_⟩
    have Rb : Rel g.T.K ⟨c.β, H', F'⟩ ρb Bi (wipe σ (own.map (·.2))) H' F' := by
      rw [← hρ]
      exact (R'.fgt _).enter
    obtain ⟨d, F2, hd, R2, e2, hrep⟩ := walk_step (c := ⟨c.β, H', F'⟩) w Rb e' hlt y
    have hdrop : ds.drop i = d :: ds.drop (i + 1) := by
      obtain ⟨hl, he⟩ := List.getElem?_eq_some_iff.mp hd
      rw [List.drop_eq_getElem_cons hl, he]
    rw [hdrop] at hrun
    generalize hrm : rest.map D.int = rm at hrun
    cases hrun with
    | @cons _ _ o1 out' _ Bb _ hS hrest =>
      obtain ⟨r1, r2, hr12, hr1, hr2⟩ := List.map_eq_append_iff.mp hrm
      subst hr1 hr2 hr12
      obtain ⟨ρ', js, b, Bm, ht, hjs, htt, hb0, hb1⟩ := hS
      refine ⟨ρb, d, ρ', js, ht, _, Bi, F2, R2, hrep, fun σ3 R3 hw => ⟨(hw _ hjs).trans wipe_wipe, ρ', Bi, b, Bm, htt, _, F2, R3, fun H4 F4 R4 e4 => ?_⟩⟩
      cases b with
      | false =>
        obtain ⟨ho, rfl⟩ := hb0 rfl
        refine iteF ?_
        rw [List.map_eq_nil_iff.mp ho] at hout
        exact ⟨F4, ks, Bb, r2, R'.leave R4, (e'.trans e2).trans e4, R4.fr L _ nb (fun _ z => (nomatch z)) hD, R4.dj L nL' nF, by omega, hrest, hout⟩
      | true =>
        obtain ⟨ds1, Bn, ρ1, hit, hρ1, hrun1, hl1⟩ := hb1 rfl
        refine iteT ⟨ρ', Bm, ds1, Bn, hit, _, F4, R4, fun J2 H5 F5 R5 e5 w5 => ?_⟩
        have e05 : Same F' F5 := (e2.trans e4).trans e5
        -- the inner loop: by its turn
        have nb1 : ∀ (i : Nat) (ct : Ct), ρ1[i]? ≠ some (.o ct) := fun i ct z => by rw [← hρ1] at z; exact noOwn_o z
        have hsh : ρ1.length = (wipe σ3 vs1).length ∧ ∀ (i : Nat) (x : D), ρ1[i]? = some (.d x) → ∃ v, (wipe σ3 vs1)[i]? = some (some v) ∧ Rep g.T.K c.β F5 x v := by
          have z := (R5.fgt vs1)
          refine ⟨by rw [← hρ1]; unfold noOwn; rw [List.length_map]; exact z.len, fun i x h => ?_⟩
          rw [← hρ1] at h
          exact z.dat i x (noOwn_d h)
        refine ⟨fun j m H6 => m = ds1.length - j ∧ j ≤ ds1.length ∧ ∃ (F6 : Hp) (ks6 : List Int) (B6 : Bag) (rest6 : List Int), Rel g.T.K c ρ B6 σ H6 F6 ∧ Same F5 F6 ∧ H6 L = some (.dK (keysV ks6)) ∧ F6 L = none ∧ ks6.length ≤ i * 1000 + j ∧
            LcRun (LcTurn (blkG g scope) tg1 kx ifs1 ρ1 vs1) (ds1.drop j) B6 (rest6.map .int) Bb ∧ (rest6 ++ r2).foldl insK ks6 = out.foldl insK [],
          ⟨_, rfl, Nat.zero_le _, F5, ks, Bn, r1, R'.leave R5, Same.refl F5, R5.fr L _ nb (fun _ z => (nomatch z)) hD, R5.dj L nL' nF, hkl, hrun1, hout⟩, ?_⟩
        rintro j m H6 ⟨rfl, hj, F6, ks6, B6, rest6, A6, e56, hD6, nF6, hk6, hrun6, hout6⟩
        by_cases hjl : j < ds1.length
        · refine .inr ⟨w5.goes j H6 hjl (e56.trans A6.sub), fun H7 => ∃ (F7 : Hp) (ks7 : List Int) (B7 : Bag) (rest7 : List Int), Rel g.T.K c ρ B7 σ H7 F7 ∧ Same F5 F7 ∧ H7 L = some (.dK (keysV ks7)) ∧ F7 L = none ∧ ks7.length ≤ i * 1000 + (j + 1) ∧
            LcRun (LcTurn (blkG g scope) tg1 kx ifs1 ρ1 vs1) (ds1.drop (j + 1)) B7 (rest7.map .int) Bb ∧ (rest7 ++ r2).foldl insK ks7 = out.foldl insK [], fun H7 h7 => ⟨ds1.length - (j + 1), by omega, rfl, hjl, h7⟩, fun v1 H7 y1 => ?_⟩
          have nL6 : H6 L ≠ none := by rw [hD6]; exact fun z => nomatch z
          have Bl : Rel g.T.K ⟨c.β, H6, F6⟩ ρ1 B6 (wipe σ3 vs1) H6 F6 :=
            ⟨hsh.1, fun b o _ _ h => h, fun b h => h, A6.tab, Same.refl F6, fun b _ h => h, A6.sub, fun a h => ⟨(A6.bag a h).1, (by show H6 a ≠ none; rw [(A6.bag a h).1]; exact fun z => nomatch z), A6.F_bag h⟩,
              fun i x h => let ⟨v, g1, g2⟩ := hsh.2 i x h; ⟨v, g1, g2.mono e56⟩, fun i ct h => absurd h (nb1 i ct), fun i j ct ct' p h => absurd h (nb1 i ct)⟩
          obtain ⟨d1, F7, hd1, R7, e7, hrep1⟩ := walk_step (c := ⟨c.β, H6, F6⟩) w5 Bl e56 hjl y1
          have hdrop1 : ds1.drop j = d1 :: ds1.drop (j + 1) := by
            obtain ⟨hl, he⟩ := List.getElem?_eq_some_iff.mp hd1
            rw [List.drop_eq_getElem_cons hl, he]
          rw [hdrop1] at hrun6
          generalize hrm6 : rest6.map D.int = rm6 at hrun6
          cases hrun6 with
          | @keep _ yy _ out6 _ B8 _ hS6 hrest6 =>
            cases rest6 with
            | nil => cases hrm6
            | cons k rest6 =>
              injection hrm6 with hk hrm6
              subst hk hrm6
              obtain ⟨ρ'', js1, b1, Bm1, ht1, hjs1, htt1, hbt1, hel1⟩ := hS6
              subst hbt1
              refine ⟨ρ1, d1, ρ'', js1, ht1, _, B6, F7, R7, hrep1, fun σ8 R8 hw8 => ⟨(hw8 _ hjs1).trans wipe_wipe, ρ'', B6, true, Bm1, htt1, _, F7, R8, fun H9 F9 R9 e9 => iteT ⟨ρ'', Bm1, .int k, B8, hel1, _, F9, R9, fun u Hx Fx Rx ex hu _ => ?_⟩⟩⟩
              cases hu
              have hDx : Hx L = some (.dK (keysV ks6)) := Rx.fr L _ nb (fun _ z => (nomatch z)) hD6
              have nFx : Fx L = none := Rx.dj L nL6 nF6
              refine ⟨keysV ks6, Sum.inl k, rfl, hDx, by rw [keysL]; omega, ?_⟩
              rw [putK_keys]
              exact ⟨Fx, insK ks6 k, B8, rest6, (A6.leave Rx).wr ⟨_, hDx, rfl⟩ n0 nFx hap, e56.trans ((e7.trans e9).trans ex), upd_same, nFx, by have := insK_len ks6 k; omega, hrest6, hout6⟩
          | @drop _ _ _ _ B8 _ hS6 hrest6 =>
            subst hrm6
            obtain ⟨ρ'', js1, b1, Bm1, ht1, hjs1, htt1, hbt1, hel1⟩ := hS6
            subst hbt1 hel1
            refine ⟨ρ1, d1, ρ'', js1, ht1, _, B6, F7, R7, hrep1, fun σ8 R8 hw8 => ⟨(hw8 _ hjs1).trans wipe_wipe, ρ'', B6, false, B8, htt1, _, F7, R8, fun H9 F9 R9 e9 => iteF ?_⟩⟩
            exact ⟨F9, ks6, B8, rest6, A6.leave R9, e56.trans (e7.trans e9), R9.fr L _ nb (fun _ z => (nomatch z)) hD6, R9.dj L nL6 nF6, by omega, hrest6, hout6⟩
        · have hje : j = ds1.length := by omega
          subst hje
          rw [List.drop_length] at hrun6
          generalize hrm6 : rest6.map D.int = rm6 at hrun6
          cases hrun6
          rw [List.map_eq_nil_iff.mp hrm6, List.nil_append] at hout6
          exact .inl ⟨w5.stops H6 (e56.trans A6.sub), F6, ks6, _, r2, A6, e'.trans (e05.trans e56), hD6, nF6, by omega, hrest, hout6⟩
  · have hie : i = ds.length := by omega
    subst hie
    rw [List.drop_length] at hrun
    generalize hrm : rest.map D.int = rm at hrun
    cases hrun
    rw [List.map_eq_nil_iff.mp hrm] at hout
    have hout' : ks = out.foldl insK [] := hout
    rw [← hout'] at q
    exact .inl ⟨w.stops H' (e'.trans R'.sub), q (.ref L) H' F' R' (e1.trans e') ⟨L, rfl, ⟨_, hD, ct_keys (by omega)⟩, n0, nF⟩ fun _ _ i ct p h1 h2 z => hap i ct p h1 h2 (V.ref.inj z).symm⟩
/-- name = {k: True for .. for ..}, the name a local, as data -/
theorem ex_setDc2 {out : List Int} {j : Nat} {pv py spos : Pos} {vs1 : List Nat} {i : Nat} {E : En} (s : St1 g i n) (hy : g.sc.names.lookup n = some .local) (hi : ItD g tg iter ρ B ds B1) (ok : blkC g.N g.sc scope own = true) (hρ : noOwn (fgt ρ (own.map (·.2))) = ρb) (hvs : ∀ i ∈ vs1, i ∈ own.map (·.2))
    (run : L2Run (L2Turn (blkG g scope) tg tg1 iter1 kx ifs ifs1 ρb (own.map (·.2)) vs1) ds B1 (out.map .int) B2) (hlen : ds.length ≤ 1000) (h : E.nx (ρ.set i (.d (.dct (keysD (out.foldl insK []))))) B2)
    (hl : (py.line == pos.line) = true := by rfl) (ha : (scope.names.any fun (m, k) => m == n && (k == .local || k == .cell)) = false := by decide +kernel)
    (hf : ∀ (env : Env) x, foldedSetIterable iter env x = pure x := by intro _ _; rfl) (hf1 : ∀ (env : Env) x, foldedSetIterable iter1 env x = pure x := by intro _ _; rfl) :
    Ex g (.Assign [.Name n py] (.DictComp kx (.Constant (.bool true) j pv) [⟨tg, iter, ifs, 0⟩, ⟨tg1, iter1, ifs1, 0⟩] scope pos) spos) ρ B E := by
  refine ⟨fun X hX => ?_⟩
  obtain ⟨wi, pi, qi⟩ := hi.h X hX
  have okX : BlkOk X.N X.env.scope scope own := by rw [hX.hN, hX.hs]; exact blkOk_by ok
  have ndX : X.N.Nodup := by rw [hX.hN]; exact hX.nd
  have lx : X.env.scope.names.lookup n = some .local := by rw [hX.hs]; exact hy
  refine ⟨fun pins st σ H Dn I ⟨c, F, R, q1, _⟩ => ?_⟩
  have ky : X.env.kindOf n = some .local := lx
  have hbk : X.env.blockKind = .function := by unfold Env.blockKind; rw [I.ok.kind]; rfl
  have hsw : swapsWith (dc2 kx (.Constant (.bool true) j pv) tg iter tg1 iter1 ifs ifs1 scope pos) (some (.Name n py)) spos.line X.env = pure true := by
    unfold swapsWith
    simp only [hbk, ky, ha, Expr.pos, hl]
    rfl
  rw [exec_Assign_Name_used _ _ _ _ hsw]
  refine wpAny_bind (wpAny_standAt (wpAny_bind ?_))
  show wpAny _ X.A (do let _ ← comprehension (dc2 kx (.Constant (.bool true) j pv) tg iter tg1 iter1 ifs ifs1 scope pos) scope X.env (firstIterPos [⟨tg, iter, ifs, 0⟩, ⟨tg1, iter1, ifs1, 0⟩] pos) newDict false (eval iter X.env) (some (assign (.Name n py) X.env))) _ _ st
  have rd : tDc2 wi (rdG (blkG g scope) tg) (rdT (blkG g scope) ifs) (rdI (blkG g scope) tg1 iter1) (rdG (blkG g scope) tg1) (rdT (blkG g scope) ifs1) (rdE (blkG g scope) kx) tTrue (own.map (·.2)) vs1 σ H (fun x H1 => Dn.nx (σ.set i (some x)) H1) := by
    refine dc2_read hρ hvs qi run hlen ⟨c, F, R, fun v H' F' R' e' ok ap => ?_⟩
    obtain ⟨p, hv, ⟨ho, h1, h2⟩, n0, nF⟩ := ok
    subst hv
    obtain ⟨R2, e2⟩ := R'.freeze h1 (CtOk.nt h2).1 n0 nF fun j ct' hj hs => ap _ rfl j ct' p hj hs rfl
    exact q1 _ B2 _ H' _ (R2.set (r := .d (.dct _)) ((h2.mono e2).rep upd_same) apart_d i) (e'.trans e2) h
  refine wpAny_bind (thn (dc2_core (Qf := fun _ s' => SP X pins Dn .next s') hX.calm ndX I pi okX hvs (fun s H C cl fp => ⟨rdG_ok (hX.blk scope s H C cl fp), rdT_ok (hX.blk scope s H C cl fp), rdI_ok (hX.blk scope s H C cl fp), rdG_ok (hX.blk scope s H C cl fp), rdT_ok (hX.blk scope s H C cl fp), rdE_ok (hX.blk scope s H C cl fp), pe_bl⟩) (hf X.env) hf1 rd fun L C s' m H' I' q hn f => ?_) fun _ s' hq => wpAny_pure (wpAny_pure hq))
  show wpAny _ _ (assign (.Name n py) X.env (.ref L)) _ _ _
  refine wpAny_assign_Name (store_ok2 (v := V.ref L) I' ndX (by rw [hX.hN]; exact s.ix) (.inl lx) rfl (fun s2 I2 ⟨a, sb, ha⟩ => ?_) (.inr lx))
  obtain ⟨f0, f1, f2, f3, f4, f5⟩ := f
  have haC : C ≠ a := ha.elim (fun z => by rw [z]; exact f1) fun z e => f4 n a z e.symm
  exact ⟨m, hn.sameBut sb haC, fun h3 sb3 => ⟨_, H', I2.turned (t' := s2.toks) (fun b o hb e => (sb3.2 b hb).trans e) f0 f1 f3 f4 f5, q⟩⟩
/-- sorted(d) of a dict of marks -/
theorem k_sortK {ks : List Int} (h64 : ks.length < 64) : CallD g (.builtin "sorted") [.dct (keysD ks)] (.o (.l ((sortL ks).map .int))) := fun X hX => ⟨_, call_sortedDI hX.calm, fun c ρ B σ H F vs Q R hvs q => by
  obtain ⟨v, rfl, h1⟩ := all1 hvs
  obtain ⟨a, rfl, h2, h3⟩ := rep_keys_inv h1
  refine ⟨a, keysV ks, ks, rfl, .inl (R.sub _ _ h2), by unfold keysV; rw [List.map_map]; rfl, h64, fun ys p hp hs np => ?_⟩
  cases sortL_eq hp hs
  exact q _ _ F (R.newO np) (Same.refl F) ⟨p, rfl, OwnAt.new' R np ⟨_, rfl, by rw [List.length_map, hp.length_eq, sizeLine_eq]; omega, RepAll.ofInts _⟩⟩ (R.apart np)⟩
end
end PD
namespace PD
open PySem PySem.Spec PyProof.Rows L2 RZ

/-! ### the script's slice -/
section
variable {g : G} {ρ ρb : Rho} {B B1 B2 B3 : Bag} {a b e tg iter elt : Expr} {pos p kpos : Pos} {x y z d : D} {es elts ifs : List Expr} {ds : List D} {n : Str}
theorem evr_slS {ns : List Int} {m : Nat} {hi : Expr} {p2 : Pos} (ha : Ev g a ρ B (.scr ns) B1) (hh : Ev g hi ρ B1 (nD m) B2) (hl : ns.length ≤ 1000) : EvR g (.Subscript a (.Slice none (some hi) none p2) pos) ρ B (.o (.l ((ns.take m).map .int))) B2 := by
  refine ⟨fun X hX => ?_⟩
  obtain ⟨tu, pu, qu⟩ := (po_so hh).h X hX
  refine PE.imp (pe_slice sl_list (ha.h X hX) po_none pu) fun σ H Q ⟨c, F, R, q⟩ => ⟨c, F, R, fun v H1 F1 R1 e1 h1 _ => qu c σ H1 F1 _ R1 fun H2 F2 R2 e2 => ?_⟩
  have hh : Rep g.T.K c.β F2 (.scr ns) v := Rep.mono e2 h1
  clear h1
  cases hh with
  | scr h1 =>
    refine ⟨_, _, rfl, by rw [hX.hK]; exact R2.sub.seq h1, fun p np => ?_⟩
    have ecut : cutV (ns.map V.int) none (some ((m : Nat) : Int)) = (ns.take m).map V.int := by
      unfold cutV
      rw [HT.sIx_none, HT.sIx_nat, List.drop_zero, Nat.sub_zero, ← List.map_take, List.length_map]
      congr 1
      rw [List.take_eq_take_iff]
      omega
    rw [ecut]
    exact q _ _ F2 (R2.newO np) (e1.trans e2) ⟨p, rfl, OwnAt.new' R2 np ⟨_, rfl, by rw [List.length_map, List.length_take, sizeLine_eq]; omega, RepAll.ofInts _⟩⟩ (R2.apart np)
end
/-! ### the law's bags -/
def Bag0 (b : Bag) : Prop := 0 ≤ b.1 ∧ 0 ≤ b.2.1 ∧ b.2.1 < 2305843009213693951 ∧ 0 ≤ b.2.2 ∧ b.2.2 ≤ 10000
/-- all but the tables -/
def ntb (H : Hp) : Hp := fun b => match H b with
  | some (.tbl _) => none
  | o => o
theorem ntb_some {H : Hp} {b : Addr} {o : HO} (h : ntb H b = some o) : H b = some o := by
  unfold ntb at h
  split at h
  · cases h
  · exact h
theorem ntb_of {H : Hp} {b : Addr} {o : HO} (h : H b = some o) (n : ∀ ps, o ≠ .tbl ps) : ntb H b = some o := by
  unfold ntb
  split
  · rename_i z
    rw [z] at h
    exact absurd (Option.some.inj h).symm (n _)
  · exact h
theorem ntb_none {H : Hp} {b : Addr} (h : H b = none) : ntb H b = none := by
  unfold ntb
  rw [h]
def TabZ (K : KT) (H : Hp) : Prop := ∀ p ∈ K.T, LamX.TabS H p.1 p.2
theorem TabZ.f {K : KT} {H : Hp} (t : TabZ K H) : TabF K H (ntb H) := fun p hp => ⟨by
  obtain ⟨ps, h1, h2, h3⟩ := t p hp
  exact ⟨ps, h1, h2, fun pos cv hc => let ⟨c, a, b⟩ := h3 pos cv hc; ⟨c, a, ntb_of b LamX.codeO_ne⟩⟩, by
  obtain ⟨ps, h, _⟩ := t p hp
  unfold ntb
  rw [h]⟩
theorem SqL.ntb {K : PySem.W.Frag} {H : Hp} {a : Addr} {xs : List V} (h : SqL K H a xs) : SqL K (ntb H) a xs :=
  h.elim (fun h => .inl (h.elim (fun h => .inl (ntb_of h fun _ z => (nomatch z))) fun ⟨o, h⟩ => .inr ⟨o, ntb_of h fun _ z => (nomatch z)⟩)) fun h => .inr h
/-- a list of new lists, each a bag -/
structure BagsAt (K : KT) (H H' : Hp) (p : Addr) (as : List Addr) : Prop where
  same : ∀ b o, (∀ ps, o ≠ .tbl ps) → H b = some o → H' b = some o
  tab : TabZ K H'
  np : H p = none
  at_ : H' p = some (.lst (as.map V.ref))
  len : as.length ≤ 64
  bag : ∀ x ∈ as, H x = none ∧ x ≠ p ∧ ∃ b, H' x = some (bagH b) ∧ Bag0 b
  nd : as.Nodup
def spBags (K : KT) (m : Int) : Sp := fun vs H Q _ => ∃ (a : Addr) (ns : List Int), vs = [.ref a, .int m] ∧ SqL K H a (ns.map V.int) ∧ ns.length ≤ 63 ∧ TabZ K H ∧ ∀ H' p as, BagsAt K H H' p as → Q (.ref p) H'
/-- a well's promise: a new list -/
def C_well : Con := fun ds B r B' => ∃ (cell t : Int), ds = [.int cell, .int t] ∧ ∃ x y z, r = .o (.l [.int x, .int y, .int z]) ∧ (x = if cell ≥ 10 ^ 18 then cell - 10 ^ 18 else 0) ∧ y = cell % 2305843009213693951 ∧ z = t ∧ B' = B
theorem bags_ok {T : Top} {k : Nat} {f : Addr} {fd : FuncData} {st : Stmt} {m : Int} {n0 : Nat} {pz pq pr pc pe pn1 pn2 pk pm pc2 pb1 pt pn3 pn4 p6 p7 p8 p9 pa pb2 : Pos} {j1 j2 k1 : Nat} {scope : Scope}
    (F : Fun T.K.fr "_law_bags" "_law_bags" st f fd) (S : FnScope ["script", "most", "k", "cell"] ["script", "most"] (defScope st)) (W : HasFn T k "_law_well" C_well) (hen : T.mg "enumerate" = none) (hm : m = (n0 : Nat)) (hn0 : n0 ≤ 10)
    (hbody : defBody st = [.Return (some (.ListComp (.Call (.Name "_law_well" pn1) [.Name "cell" pn2, .BinOp (.Constant (.int 977) j1 pk) .Mult (.Name "k" pm) pc2] [] pb1)
      [⟨.Tuple [.Name "k" p6, .Name "cell" p7] k1 p8, .Call (.Name "enumerate" p9) [.BinOp (.Subscript (.Name "script" pa) (.Slice none (some (.Name "most" pb2)) none pn4) pt) .Add (.List [.Constant (.int 0) j2 pe] pn3) pc] [] pr, [], 0⟩] scope pz)) pq])
    (hg1 : (relS scope (defScope st)).names.lookup ("_law_well" : Str) = some .globalImplicit) (hg2 : (defScope st).names.lookup ("enumerate" : Str) = some .globalImplicit) (v1 : Vis (defScope st) "script") (v2 : Vis (defScope st) "most") (v3 : Vis (relS scope (defScope st)) "cell") (v4 : Vis (relS scope (defScope st)) "k")
    (hc : blkC ["script", "most", "k", "cell"] (defScope st) scope [("k", 2), ("cell", 3)] = true) (s1 : St1 (blkG (fnG T ["script", "most", "k", "cell"] st k) scope) 2 "k") (s2 : St1 (blkG (fnG T ["script", "most", "k", "cell"] st k) scope) 3 "cell") :
    FnOk T.P T.w T.K.fr T.mg T.base CX0 (k + 1) f fd ["script", "most"] (spBags T.K m) := by
  refine F.ok S (fun vs H Q E h => ?_) fun cdv A outer s H vs Q E hr h => ?_
  · obtain ⟨a, ns, rfl, _⟩ := h
    rfl
  obtain ⟨a, ns, rfl, hs, hl, htz, q⟩ := h
  have hX : At (fnG T ["script", "most", "k", "cell"] st k) (cxOf CX0 T.P T.w T.K.fr T.mg T.base ["script", "most", "k", "cell"] "_law_bags" (defScope st) f cdv A outer s H E).nox :=
    ⟨rfl, rfl, rfl, rfl, rfl, rfl, rfl, S.nd, rfl, hr, fun _ _ => rfl, PassesOwn.never, fun _ h => (nomatch h)⟩
  generalize hXX : (cxOf CX0 T.P T.w T.K.fr T.mg T.base ["script", "most", "k", "cell"] "_law_bags" (defScope st) f cdv A outer s H E).nox = X at hX
  have hz : (sizeLine : Nat) = 16777216 := sizeLine_eq
  -- the source: the cells
  let ρ : Rho := [.d (.scr ns), .d (nD n0), .u, .u]
  have hit : ItD (fnG T ["script", "most", "k", "cell"] st k) (.Tuple [.Name "k" p6, .Name "cell" p7] k1 p8) (.Call (.Name "enumerate" p9) [.BinOp (.Subscript (.Name "script" pa) (.Slice none (some (.Name "most" pb2)) none pn4) pt) .Add (.List [.Constant (.int 0) j2 pe] pn3) pc] [] pr) ρ (0, 0, 0) (enD ((ns.take n0 ++ [0]).map .int)) (0, 0, 0) := by
    refine it_enumL hg2 hen ?_
    rw [List.map_append]
    exact ev_catL ((evr_slS (ev_var (i := 0) rfl v1 rfl) (ev_var (i := 1) rfl v2 rfl) (by omega)).fz) (ev_lst (evs_cons ev_int evs_nil)) (by rw [List.length_map, List.length_take]; simp; omega)
  obtain ⟨wi, pi, qi⟩ := hit.h X hX
  have okX : BlkOk X.N X.env.scope scope [("k", 2), ("cell", 3)] := by rw [hX.hN, hX.hs]; exact blkOk_by hc
  have ndX : X.N.Nodup := by rw [hX.hN]; exact S.nd
  -- the elements
  let rdW : TE := fun σ H Q => ∃ ρ' r, EvR (blkG (fnG T ["script", "most", "k", "cell"] st k) scope) (.Call (.Name "_law_well" pn1) [.Name "cell" pn2, .BinOp (.Constant (.int 977) j1 pk) .Mult (.Name "k" pm) pc2] [] pb1) ρ' (0, 0, 0) r (0, 0, 0) ∧ tEv T.K ρ' (0, 0, 0) r (0, 0, 0) σ H Q
  have pw : ∀ (s : Shared) (H : Hp) (C : Addr) (cl : List (Str × Addr)) (fp : List Addr), PE (X.blk s H scope (compEnvC scope cl C X.env) fp) (.Call (.Name "_law_well" pn1) [.Name "cell" pn2, .BinOp (.Constant (.int 977) j1 pk) .Mult (.Name "k" pm) pc2] [] pb1) rdW := fun s H C cl fp =>
    ⟨fun pins s' σ H' Q I ⟨ρ', r, ht, q⟩ => (ht.h _ (hX.blk scope s H C cl fp)).run pins s' σ H' Q I q⟩
  rw [hbody]
  refine ⟨_, pss_one (ps_ret (pe_lc hX.calm ndX pi okX (fun s H C cl fp => rdG_ok (hX.blk scope s H C cl fp)) (fun s H C cl fp => pts_nil) pw)), ?_⟩
  have R0 : Rel T.K ⟨none, H, ntb H⟩ ρ (0, 0, 0) (L2.start ["script", "most", "k", "cell"] [.ref a, .int m]) H (ntb H) := by
    refine ⟨rfl, fun b o _ _ h => h, fun b h => h, htz.f, Same.refl _, fun b h1 h2 => h2, fun b o h => ntb_some h, fun a h => (nomatch h), fun i x h => ?_, fun i ct h => ?_, fun i j ct ct' p h => ?_⟩
    · match i, h with
      | 0, h => cases h; exact ⟨_, rfl, .scr (SqL.ntb hs)⟩
      | 1, h => cases h; exact ⟨_, by rw [hm]; rfl, .int _⟩
      | 2, h => cases h
      | 3, h => cases h
      | i + 4, h => cases h
    · match i, h with
      | 0, h => cases h
      | 1, h => cases h
      | 2, h => cases h
      | 3, h => cases h
      | i + 4, h => cases h
    · match i, h with
      | 0, h => cases h
      | 1, h => cases h
      | 2, h => cases h
      | 3, h => cases h
      | i + 4, h => cases h
  have hK : X.K = T.K.fr := hX.hK
  refine qi ⟨none, H, ntb H⟩ _ H (ntb H) _ R0 fun J1 H1 F1 R1 e1 w => ?_
  intro L nL
  have hcells : (ns.take n0 ++ [0]).length ≤ 11 := by rw [List.length_append, List.length_take]; simp; omega
  have hlen : (enD ((ns.take n0 ++ [0]).map D.int)).length = (ns.take n0 ++ [0]).length := by rw [enD_length, List.length_map]
  refine ⟨fun i mm H' => mm = (ns.take n0 ++ [0]).length - i ∧ i ≤ (ns.take n0 ++ [0]).length ∧ ∃ (F' : Hp) (as : List Addr), Rel T.K ⟨none, H, ntb H⟩ ρ (0, 0, 0) (L2.start ["script", "most", "k", "cell"] [.ref a, .int m]) H' F' ∧ Same F1 F' ∧ H' L = some (.lst (as.map V.ref)) ∧ F' L = none ∧ as.length = i ∧
      (∀ x ∈ as, H x = none ∧ x ≠ L ∧ F' x = none ∧ ∃ b, H' x = some (bagH b) ∧ Bag0 b) ∧ as.Nodup, ⟨_, rfl, Nat.zero_le _, F1, [], R1.newO nL, Same.refl F1, upd_same, R1.F_none nL, rfl, fun x h => (by cases h), List.nodup_nil⟩, ?_⟩
  rintro i mm H' ⟨rfl, hle, F', as, R', e', hD, nF, hal, hbags, hnd⟩
  have hHL : H L = none := R1.H0_none nL
  by_cases hlt : i < (ns.take n0 ++ [0]).length
  · refine .inr ⟨w.goes i H' (by rw [hlen]; exact hlt) (e'.trans R'.sub), fun H2 => ∃ (F2 : Hp) (as : List Addr), Rel T.K ⟨none, H, ntb H⟩ ρ (0, 0, 0) (L2.start ["script", "most", "k", "cell"] [.ref a, .int m]) H2 F2 ∧ Same F1 F2 ∧ H2 L = some (.lst (as.map V.ref)) ∧ F2 L = none ∧ as.length = i + 1 ∧
      (∀ x ∈ as, H x = none ∧ x ≠ L ∧ F2 x = none ∧ ∃ b, H2 x = some (bagH b) ∧ Bag0 b) ∧ as.Nodup, fun H2 h2 => ⟨_, by omega, rfl, hlt, h2⟩, fun v H2 y => ?_⟩
    have Rb : Rel T.K ⟨none, H', F'⟩ (noOwn (fgt ρ [2, 3])) (0, 0, 0) (wipe (L2.start ["script", "most", "k", "cell"] [.ref a, .int m]) [2, 3]) H' F' := (R'.fgt [2, 3]).enter
    obtain ⟨d, F2, hd, R2, e2, hrep⟩ := walk_step (c := ⟨none, H', F'⟩) w Rb e' (by rw [hlen]; exact hlt) y
    have hx0 : ∃ cell, (ns.take n0 ++ [0])[i]? = some cell := ⟨_, List.getElem?_eq_getElem hlt⟩
    obtain ⟨cell, hcell⟩ := hx0
    have hd' : d = .tup [.int (i : Nat), .int cell] := by
      have := enD_get (xs := (ns.take n0 ++ [0]).map D.int) (i := i) (x := .int cell) (by rw [List.getElem?_map, hcell]; rfl)
      rw [hd] at this
      exact Option.some.inj this
    subst hd'
    have tg : Tg (blkG (fnG T ["script", "most", "k", "cell"] st k) scope) (.Tuple [.Name "k" p6, .Name "cell" p7] k1 p8) (noOwn (fgt ρ [2, 3])) (.tup [.int (i : Nat), .int cell]) [.d (.scr ns), .d (nD n0), .d (.int (i : Nat)), .d (.int cell)] [2, 3] :=
      tg_tup (tgs_cons (tg_name s1) (tgs_cons (tg_name s2) tgs_nil))
    refine ⟨_, _, _, _, tg, ⟨none, H', F'⟩, _, F2, R2, hrep, fun σ3 R3 hw => ⟨(hw [2, 3] fun _ h => h).trans wipe_wipe, ?_⟩⟩
    show rdW σ3 H2 _
    let bg : Bag := ((if cell ≥ 10 ^ 18 then cell - 10 ^ 18 else 0), cell % 2305843009213693951, 977 * (i : Nat))
    have hb0 : Bag0 bg := by
      refine ⟨?_, Int.emod_nonneg _ (by decide), Int.emod_lt_of_pos _ (by decide), ?_, ?_⟩
      · show (0 : Int) ≤ if cell ≥ 10 ^ 18 then cell - 10 ^ 18 else 0
        split <;> omega
      · show (0 : Int) ≤ 977 * ((i : Nat) : Int)
        omega
      · show 977 * ((i : Nat) : Int) ≤ 10000
        omega
    refine ⟨_, .o (.l [.int bg.1, .int bg.2.1, .int bg.2.2]), ev_call (g := blkG (fnG T ["script", "most", "k", "cell"] st k) scope) W (Nat.le_refl _) hg1 (evs_cons (ev_var (i := 3) rfl v3 rfl) (evs_cons (ev_bin (b_mul (.inl ⟨by decide, by decide⟩)) ev_int (ev_var (i := 2) rfl v4 rfl)) evs_nil)) ⟨cell, _, rfl, _, _, _, rfl, rfl, rfl, rfl, rfl⟩,
      ⟨none, H', F'⟩, F2, R3, fun u H5 F5 R5 e5 hu _ => ?_⟩
    obtain ⟨q0, rfl, ⟨ho, g1, g2⟩, g3, g4⟩ := hu
    obtain ⟨vs, rfl, _, g2⟩ := g2
    have hvs : (.lst vs : HO) = bagH bg := by
      have := RepAll.ints (ns := [bg.1, bg.2.1, bg.2.2]) g2
      rw [this]
      rfl
    rw [hvs] at g1
    have g3' : H' q0 = none := g3
    have hD5 : H5 L = some (.lst (as.map V.ref)) := R5.fr L _ (fun z => (nomatch z)) (fun _ z => (nomatch z)) hD
    have nF5 : F5 L = none := R5.dj L (by show H' L ≠ none; rw [hD]; exact fun z => nomatch z) nF
    have hqL : q0 ≠ L := fun z => by rw [z, hD] at g3'; cases g3'
    have hqa : q0 ∉ as := fun z => by
      obtain ⟨_, _, _, b, hb, _⟩ := hbags q0 z
      rw [hb] at g3'
      cases g3'
    have hqH : H q0 = none := by
      cases qq : H q0 with
      | none => rfl
      | some o => exact absurd g3' (R'.st q0 (by show H q0 ≠ none; rw [qq]; exact fun z => nomatch z))
    refine ⟨as.map V.ref, hD5, by rw [List.length_map]; omega, ?_⟩
    have RL := R'.leave R5
    refine ⟨F5, as ++ [q0], RL.wr ⟨_, hD5, rfl⟩ hHL nF5 (fun i ct q h => ?_), e'.trans (e2.trans e5), by rw [upd_same, List.map_append]; rfl, nF5, by rw [List.length_append]; simp; omega, fun x hx => ?_, ?_⟩
    · exfalso
      match i, h with
      | 0, h => cases h
      | 1, h => cases h
      | 2, h => cases h
      | 3, h => cases h
      | i + 4, h => cases h
    · rcases List.mem_append.mp hx with hx | hx
      · obtain ⟨k1, k2, k3, b, k4, k5⟩ := hbags x hx
        exact ⟨k1, k2, R5.dj x (by show H' x ≠ none; rw [k4]; exact fun z => nomatch z) k3, b, by rw [upd_ne k2]; exact R5.fr x _ (fun z => nomatch z) (fun _ z => (nomatch z)) k4, k5⟩
      · rw [List.mem_singleton.mp hx]
        exact ⟨hqH, hqL, g4, bg, by rw [upd_ne hqL]; exact g1, hb0⟩
    · exact List.nodup_append.mpr ⟨hnd, List.nodup_cons.mpr ⟨List.not_mem_nil, List.nodup_nil⟩, fun x hx y hy z => hqa (by rw [← List.mem_singleton.mp hy, ← z]; exact hx)⟩
  · have hie : i = (enD ((ns.take n0 ++ [0]).map D.int)).length := by rw [hlen]; omega
    refine .inl ⟨by rw [hie]; exact w.stops H' (e'.trans R'.sub), q H' L as ⟨fun b o ho h => R'.fr b o (fun z => nomatch z) ho h, fun p hp => (R'.tab p hp).1.s R'.sub, hHL, hD, by omega, fun x hx => ?_, hnd⟩⟩
    obtain ⟨k1, k2, k3, b, k4, k5⟩ := hbags x hx
    exact ⟨k1, k2, b, k4, k5⟩

/-! ### the law: a loop over the bags, then the rest -/
def spLaw (K : KT) : Sp := fun vs H Q _ => ∃ (a : Addr) (ns : List Int), vs = [.ref a] ∧ SqL K H a (ns.map V.int) ∧ ns.length ≤ 63 ∧ TabZ K H ∧ ∀ H', Q (.bl true) H'
def rhoU (N : List Str) : Rho := List.replicate N.length .u
theorem rhoU_get {N : List Str} {i : Nat} {s : Sl} (h : (rhoU N)[i]? = some s) : s = .u := by
  unfold rhoU at h
  rw [List.getElem?_replicate] at h
  split at h
  · exact (Option.some.inj h).symm
  · cases h
/-- a turn's end: all is well, the slots are as many as ever -/
def bagE (N : List Str) : En := { nx := fun ρ _ => ρ.length = N.length, rt := fun _ _ => False, bk := fun _ _ => False, ct := fun ρ _ => ρ.length = N.length }
def lawE : En := { nx := fun _ _ => False, rt := fun r _ => r = .d (.bl true) }
theorem law_ok {T : Top} {k jb ib : Nat} {f fb : Addr} {fd fdb : FuncData} {st : Stmt} {N : List Str} {m : Int} {body rest : List Stmt} {p1 p2 p3 p4 p5 p6 : Pos} {j : Nat}
    (F : Fun T.K.fr "law" "law" st f fd) (S : FnScope N ["script"] (defScope st)) (HB : FnOk T.P T.w T.K.fr T.mg T.base CX0 jb fb fdb ["script", "most"] (spBags T.K m)) (kb : PySem.W.keepIn T.K.fr (.ref fb) = true) (bb : Binds T.K.fr fdb ["script", "most"] [])
    (mgb : T.mg "_law_bags" = some (.ref fb)) (hj : jb ≤ k) (hbody : defBody st = .For (.Name "bag" p1) (.Call (.Name "_law_bags" p2) [.Name "script" p3, .Constant (.int m) j p4] [] p5) body [] p6 :: rest)
    (v : Vis (defScope st) "script") (hg : (defScope st).names.lookup ("_law_bags" : Str) = some .globalImplicit) (s : St1 (fnG T N st k) ib "bag") (hN0 : N[0]? = some ("script" : Str))
    (hb : ∀ b, Bag0 b → Exs (fnG T N st k) body ((rhoU N).set ib (.d .bag)) b (bagE N)) (hrest : Exs (fnG T N st k) rest (rhoU N) (0, 0, 0) lawE) : FnOk T.P T.w T.K.fr T.mg T.base CX0 (k + 1) f fd ["script"] (spLaw T.K) := by
  refine F.ok S (fun vs H Q E h => ?_) fun cdv A outer s0 H vs Q E hr h => ?_
  · obtain ⟨a, ns, rfl, _⟩ := h
    rfl
  obtain ⟨a, ns, rfl, hs, hl, htz, q⟩ := h
  have hX : At (fnG T N st k) (cxOf CX0 T.P T.w T.K.fr T.mg T.base N "law" (defScope st) f cdv A outer s0 H E).nox :=
    ⟨rfl, rfl, rfl, rfl, rfl, rfl, rfl, S.nd, rfl, hr, fun _ _ => rfl, PassesOwn.never, fun _ h => (nomatch h)⟩
  have hXN : (cxOf CX0 T.P T.w T.K.fr T.mg T.base N "law" (defScope st) f cdv A outer s0 H E).nox.N = N := rfl
  have HB' : FnOk T.P T.w T.K.fr T.mg T.base CX0 k fb fdb ["script", "most"] (spBags T.K m) := HB.mono hj
  have pb : PSs (cxOf CX0 T.P T.w T.K.fr T.mg T.base N "law" (defScope st) f cdv A outer s0 H E).nox body (fun D σ H => ∃ b, Bag0 b ∧ tEx T.K ((rhoU N).set ib (.d .bag)) b (bagE N) D σ H) := ⟨fun pins s σ H D I ⟨b, h0, h1⟩ => ((hb b h0).h _ hX).run pins s σ H D I h1⟩
  rw [hbody]
  have hib : ib < N.length := (List.getElem?_eq_some_iff.mp s.ix).1
  refine ⟨_, pss_cons (ps_for PassesOwn.never rfl (pi_list (pe_call (x := "_law_bags") HB' hr hg mgb kb bb .nil pass0 (pa_cons (pe_var (i := 0) hN0 v) (pa_cons pe_int pa_nil)))) (pg_name (i := ib) S.nd s.ix s.loc (.inl rfl)) pb) (hrest.h _ hX), ?_⟩
  refine ⟨.ref a, by (have hN : 0 < N.length := (List.getElem?_eq_some_iff.mp hN0).1; show (L2.start N [.ref a])[0]? = _; rfl), a, ns, rfl, hs, hl, htz, fun H1 p as BA => ?_⟩
  refine ⟨p, rfl, ⟨_, SqL.of BA.at_⟩, ?_⟩
  refine for_list (K := T.K.fr) (a := p) (xs := as.map V.ref) (g := gName ib) (tb := fun D σ H => ∃ b, Bag0 b ∧ tEx T.K ((rhoU N).set ib (.d .bag)) b (bagE N) D σ H) (D := { nx := tEx T.K (rhoU N) (0, 0, 0) lawE { nx := fun _ H' => Q .non H', rt := Q }, rt := Q }) (fun i σ H' => σ.length = N.length ∧ TabZ T.K H' ∧ H' p = some (.lst (as.map V.ref)) ∧ ∀ j x, i ≤ j → as[j]? = some x → ∃ b, H' x = some (bagH b) ∧ Bag0 b) ⟨?_, BA.tab, BA.at_, fun j x _ hx => (BA.bag x (List.mem_of_getElem? hx)).2.2⟩ (fun i σ H' _ hP => SqL.of hP.2.2.1) (fun i x σ H' hx hP => ?_) fun σ H' hP => ?_
  · unfold L2.start
    have hN : 0 < N.length := (List.getElem?_eq_some_iff.mp hN0).1
    rw [List.length_append, List.length_map, List.length_replicate]
    simp
    omega
  · obtain ⟨hlen, htz2, hp, hrem⟩ := hP
    rw [List.getElem?_map] at hx
    obtain ⟨ai, hai, rfl⟩ := Option.map_eq_some_iff.mp hx
    obtain ⟨b, hb1, hb2⟩ := hrem i ai (Nat.le_refl _) hai
    have hpne : p ≠ ai := fun z => (BA.bag ai (List.mem_of_getElem? hai)).2.1 z.symm
    have ndx : ∀ j x, i + 1 ≤ j → as[j]? = some x → x ≠ ai := fun j x hj hx2 z => by
      rw [z] at hx2
      have := nd_ix BA.nd hx2 hai
      omega
    refine ⟨b, hb2, ⟨some ai, H', fun z => if z = ai then none else ntb H' z⟩, fun z => if z = ai then none else ntb H' z, ⟨?_, fun b o _ _ h => h, fun b h => h, fun p hp => ⟨(by
        obtain ⟨ps, h1, h2, h3⟩ := (htz2.f p hp).1
        refine ⟨ps, h1, h2, fun pos cv hc => ?_⟩
        obtain ⟨k, a, b⟩ := h3 pos cv hc
        refine ⟨k, a, ?_⟩
        show (if k = ai then none else ntb H' k) = _
        rw [if_neg]
        · exact b
        · rintro rfl
          rw [ntb_of hb1 (fun _ z => nomatch z)] at b
          cases b), by
        show (if p.1 = ai then none else ntb H' p.1) = none
        split
        · rfl
        · exact (htz2.f p hp).2⟩, Same.refl _, fun b h1 h2 => h2, fun z o h => ?_, fun a' ha' => ?_, fun i' d hd => ?_, fun i' ct hd => ?_, fun i' j' ct ct' q hd => ?_⟩, ?_, ?_, ?_, ?_⟩
    · rw [List.length_set, List.length_set]
      unfold rhoU
      rw [List.length_replicate, hlen]
    · have h : (if z = ai then none else ntb H' z) = some o := h
      split at h
      · cases h
      · exact ntb_some h
    · cases ha'
      exact ⟨hb1, (by show H' ai ≠ none; rw [hb1]; exact fun z => nomatch z), if_pos rfl⟩
    · by_cases hi' : ib = i'
      · subst hi'
        rw [List.getElem?_set_self (by unfold rhoU; rw [List.length_replicate]; exact hib)] at hd
        cases hd
        exact ⟨.ref ai, List.getElem?_set_self (by rw [hlen]; exact hib), .bag rfl⟩
      · rw [List.getElem?_set_ne hi'] at hd
        exact nomatch rhoU_get hd
    · by_cases hi' : ib = i'
      · subst hi'
        rw [List.getElem?_set_self (by unfold rhoU; rw [List.length_replicate]; exact hib)] at hd
        cases hd
      · rw [List.getElem?_set_ne hi'] at hd
        exact nomatch rhoU_get hd
    · by_cases hi' : ib = i'
      · subst hi'
        rw [List.getElem?_set_self (by unfold rhoU; rw [List.length_replicate]; exact hib)] at hd
        cases hd
      · rw [List.getElem?_set_ne hi'] at hd
        exact nomatch rhoU_get hd
    · exact fun ρ' B' σ' H2 F2 R2 _ hn => ⟨R2.len.symm.trans hn, fun p hp => (R2.tab p hp).1.s R2.sub, R2.fr p _ (fun z => hpne (Option.some.inj z)) (fun _ z => (nomatch z)) hp, fun j x hj hx => let ⟨b', g1, g2⟩ := hrem j x (by omega) hx; ⟨b', R2.fr x _ (fun z => ndx j x hj hx (Option.some.inj z)) (fun _ z => (nomatch z)) g1, g2⟩⟩
    · exact fun _ _ _ _ _ _ _ _ _ _ z => z.elim
    · exact fun _ _ _ _ _ _ _ z => z.elim
    · exact fun ρ' B' σ' H2 F2 R2 _ hn => ⟨R2.len.symm.trans hn, fun p hp => (R2.tab p hp).1.s R2.sub, R2.fr p _ (fun z => hpne (Option.some.inj z)) (fun _ z => (nomatch z)) hp, fun j x hj hx => let ⟨b', g1, g2⟩ := hrem j x (by omega) hx; ⟨b', R2.fr x _ (fun z => ndx j x hj hx (Option.some.inj z)) (fun _ z => (nomatch z)) g1, g2⟩⟩
  · refine ⟨⟨none, H', ntb H'⟩, ntb H', ⟨?_, fun b o _ _ h => h, fun b h => h, TabZ.f hP.2.1, Same.refl _, fun b h1 h2 => h2, fun b o h => ntb_some h, fun a h => (nomatch h), fun i d hd => (nomatch rhoU_get hd), fun i ct hd => (nomatch rhoU_get hd), fun i j ct ct' q hd => (nomatch rhoU_get hd)⟩, fun _ _ _ _ _ _ _ z => z.elim, fun ρ' B' σ' H2 F2 r v R2 _ ok hr => ?_, fun _ _ _ _ _ _ _ z => z.elim, fun _ _ _ _ _ _ _ z => z.elim⟩
    · unfold rhoU
      rw [List.length_replicate, hP.1]
    · subst hr
      cases ok
      exact q H2
end PD
namespace PD
open PySem PySem.Spec PyProof.Rows L2 RZ

/-- the built-ins that a text uses are no names of its own -/
structure Bl (T : Top) : Prop where
  len : T.mg "len" = none
  all : T.mg "all" = none
  any : T.mg "any" = none
  sum : T.mg "sum" = none
  max : T.mg "max" = none
  min : T.mg "min" = none
  sorted : T.mg "sorted" = none
  range : T.mg "range" = none
  zip : T.mg "zip" = none
  enumerate : T.mg "enumerate" = none
  list : T.mg "list" = none
  tuple : T.mg "tuple" = none
  isinstance : T.mg "isinstance" = none
  int : T.mg "int" = none
  bool : T.mg "bool" = none
  str : T.mg "str" = none
theorem bt_isinstance : bootBuiltins "isinstance" = some (.builtin "isinstance") := by decide +kernel
theorem bt_all : bootBuiltins "all" = some (.builtin "all") := by decide +kernel
theorem bt_any : bootBuiltins "any" = some (.builtin "any") := by decide +kernel
theorem bt_sum : bootBuiltins "sum" = some (.builtin "sum") := by decide +kernel
theorem bt_max : bootBuiltins "max" = some (.builtin "max") := by decide +kernel
theorem bt_min : bootBuiltins "min" = some (.builtin "min") := by decide +kernel
theorem bt_sorted : bootBuiltins "sorted" = some (.builtin "sorted") := by decide +kernel
theorem bt_len : bootBuiltins "len" = some (.builtin "len") := by decide +kernel
theorem bt_list : bootBuiltins "list" = some (.type "list") := by decide +kernel
theorem bt_tuple : bootBuiltins "tuple" = some (.type "tuple") := by decide +kernel
theorem bt_int : bootBuiltins "int" = some (.type "int") := by decide +kernel
theorem bt_bool : bootBuiltins "bool" = some (.type "bool") := by decide +kernel
theorem bt_str : bootBuiltins "str" = some (.type "str") := by decide +kernel

def D.isInt : D → Bool
  | .int _ => true
  | .bl _ => true
  | _ => false
def D.isBl : D → Bool
  | .bl _ => true
  | _ => false
def D.isTup : D → Bool
  | .tup _ => true
  | _ => false
def D.isLst : D → Bool
  | .lst _ => true
  | .bag => true
  | _ => false
def D.isStr : D → Bool
  | .str _ => true
  | _ => false
section
variable {g : G} {ρ : Rho} {B B1 B2 : Bag} {a b e : Expr} {pos p p2 : Pos} {x y z d : D}
theorem isi_int (h : x.ty.isSome = true) : CallD g (.builtin "isinstance") [x, .val (.ty "int")] (.d (.bl x.isInt)) := by
  cases x with
  | val v => cases h
  | scr v => cases h
  | lmv L cl => cases h
  | lam L ns ds => cases h
  | _ => first | exact k_isi (k := true) rfl (by decide +kernel) | exact k_isi (k := false) rfl (by decide +kernel)
theorem isi_bool (h : x.ty.isSome = true) : CallD g (.builtin "isinstance") [x, .val (.ty "bool")] (.d (.bl x.isBl)) := by
  cases x with
  | val v => cases h
  | scr v => cases h
  | lmv L cl => cases h
  | lam L ns ds => cases h
  | _ => first | exact k_isi (k := true) rfl (by decide +kernel) | exact k_isi (k := false) rfl (by decide +kernel)
theorem isi_tuple (h : x.ty.isSome = true) : CallD g (.builtin "isinstance") [x, .val (.ty "tuple")] (.d (.bl x.isTup)) := by
  cases x with
  | val v => cases h
  | scr v => cases h
  | lmv L cl => cases h
  | lam L ns ds => cases h
  | _ => first | exact k_isi (k := true) rfl (by decide +kernel) | exact k_isi (k := false) rfl (by decide +kernel)
theorem isi_list (h : x.ty.isSome = true) : CallD g (.builtin "isinstance") [x, .val (.ty "list")] (.d (.bl x.isLst)) := by
  cases x with
  | val v => cases h
  | scr v => cases h
  | lmv L cl => cases h
  | lam L ns ds => cases h
  | _ => first | exact k_isi (k := true) rfl (by decide +kernel) | exact k_isi (k := false) rfl (by decide +kernel)
theorem isi_str (h : x.ty.isSome = true) : CallD g (.builtin "isinstance") [x, .val (.ty "str")] (.d (.bl x.isStr)) := by
  cases x with
  | val v => cases h
  | scr v => cases h
  | lmv L cl => cases h
  | lam L ns ds => cases h
  | _ => first | exact k_isi (k := true) rfl (by decide +kernel) | exact k_isi (k := false) rfl (by decide +kernel)
theorem isi_blt (h : x.ty.isSome = true) : CallD g (.builtin "isinstance") [x, .tup [.val (.ty "bool"), .val (.ty "list"), .val (.ty "tuple")]] (.d (.bl (x.isBl || x.isLst || x.isTup))) := by
  have go : ∀ {T : String} {k : Bool}, x.ty = some T → (∀ K : PySem.W.Frag, PySem.W.kitAny K (.type T) (["bool", "list", "tuple"].map Value.type) = some k) → CallD g (.builtin "isinstance") [x, .tup [.val (.ty "bool"), .val (.ty "list"), .val (.ty "tuple")]] (.d (.bl k)) := fun ht hk => k_isiT (ns := ["bool", "list", "tuple"]) ht hk
  have st : ∀ {T : String} {b1 b2 b3 : Bool}, kitB T "bool" = some b1 → kitB T "list" = some b2 → kitB T "tuple" = some b3 → ∀ K : PySem.W.Frag, PySem.W.kitAny K (.type T) (["bool", "list", "tuple"].map Value.type) = some (b1 || (b2 || b3)) := fun {T b1 b2 b3} h1 h2 h3 K => by
    refine kitAny_cons (kit_ty h1) (fun e => ?_) (fun e => by rw [e]; rfl)
    subst e
    refine kitAny_cons (kit_ty h2) (fun e => ?_) (fun e => by rw [e]; rfl)
    subst e
    refine kitAny_cons (kit_ty h3) (fun e => ?_) (fun e => by rw [e]; rfl)
    subst e
    exact kitAny_nil
  cases x with
  | val v => cases h
  | scr v => cases h
  | lmv L cl => cases h
  | lam L ns ds => cases h
  | _ =>
    first
    | exact go rfl (st (b1 := true) (b2 := false) (b3 := false) (by decide +kernel) (by decide +kernel) (by decide +kernel))
    | exact go rfl (st (b1 := false) (b2 := true) (b3 := false) (by decide +kernel) (by decide +kernel) (by decide +kernel))
    | exact go rfl (st (b1 := false) (b2 := false) (b3 := true) (by decide +kernel) (by decide +kernel) (by decide +kernel))
    | exact go rfl (st (b1 := false) (b2 := false) (b3 := false) (by decide +kernel) (by decide +kernel) (by decide +kernel))
/-- isinstance(e, C) -/
theorem ev_isi {n : Str} {T : String} {k : Bool} (bl : Bl g.T) (hi : CallD g (.builtin "isinstance") [x, .val (.ty T)] (.d (.bl k))) (hm : g.T.mg n = none) (hv : bootBuiltins n = some (.type T)) (ha : Ev g a ρ B x B1) (hg : Glb g "isinstance" := by rfl) (hgn : Glb g n := by rfl) (hn : n ≠ "__name__" := by decide) (hd : (n == ("__debug__" : Str)) = false := by decide)
    (he : ∀ env : Env, starEach [a, .Name n p2] env = (false, eval a env) :: starEach [.Name n p2] env := by intro _; rfl) (hpl : ∀ env : Env, (backTo pos (starEach [.Name n p2] env)).any (·.1) = false := by intro _; rfl)
    (he2 : ∀ env : Env, starEach [.Name n p2] env = (false, eval (.Name n p2) env) :: starEach [] env := by intro _; rfl) : Ev g (.Call (.Name "isinstance" p) [a, .Name n p2] [] pos) ρ B (.bl k) B1 :=
  ev_callB hi hg bl.isinstance bt_isinstance (evs_cons ha (evs_cons (ev_bltn hgn hm hv rfl hn hd) evs_nil he2) he) (by decide) (by decide) he hpl
/-- a name, its slot looked up -/
def slotOf (N : List Str) (n : Str) : Nat := N.findIdx (· == n)
theorem ev_nm {n : Str} (hN : g.N[slotOf g.N n]? = some n) (hv : Vis g.sc n) (hr : ρ[slotOf g.N n]? = some (.d d)) (hd : (n == ("__debug__" : Str)) = false := by decide) (hcd : (n == ("__classdict__" : Str)) = false := by decide) : Ev g (.Name n pos) ρ B d B := ev_var hN hv hr hd hcd
/-- plain data: of None, truths, ints, texts, lists, tuples -/
def D.plain (x : D) : Bool := x.py.isSome
theorem D.plain.ty {x : D} (h : x.plain = true) : x.ty.isSome = true := by
  cases x with
  | val v => unfold D.plain D.py at h; cases h
  | scr v => unfold D.plain D.py at h; cases h
  | lmv L cl => unfold D.plain D.py at h; cases h
  | lam L ns ds => unfold D.plain D.py at h; cases h
  | _ => rfl
theorem pys_mem : ∀ {ds : List D} {ps : List PyData}, D.pys ds = some ps → ∀ d ∈ ds, d.plain = true
  | [], _, _, _, h => by cases h
  | d :: ds, ps, h, e, he => by
    unfold D.pys at h
    split at h
    · rename_i x xs hx hxs
      rcases List.mem_cons.mp he with rfl | he
      · unfold D.plain; rw [hx]; rfl
      · exact pys_mem hxs e he
    · cases h
theorem D.plain.tup {ds : List D} (h : (D.tup ds).plain = true) : ∀ d ∈ ds, d.plain = true := by
  unfold D.plain D.py at h
  rw [Option.isSome_map] at h
  obtain ⟨ps, hp⟩ := Option.isSome_iff_exists.mp h
  exact pys_mem hp
theorem D.plain.lst {ds : List D} (h : (D.lst ds).plain = true) : ∀ d ∈ ds, d.plain = true := by
  unfold D.plain D.py at h
  rw [Option.isSome_map] at h
  obtain ⟨ps, hp⟩ := Option.isSome_iff_exists.mp h
  exact pys_mem hp
theorem pys_of : ∀ {ds : List D}, (∀ d ∈ ds, d.plain = true) → ∃ ps, D.pys ds = some ps
  | [], _ => ⟨[], rfl⟩
  | d :: ds, h => by
    obtain ⟨x, hx⟩ := Option.isSome_iff_exists.mp (h d List.mem_cons_self)
    obtain ⟨xs, hxs⟩ := pys_of fun e he => h e (List.mem_cons_of_mem _ he)
    exact ⟨x :: xs, by unfold D.pys; rw [hx, hxs]⟩
theorem plain_tup {ds : List D} (h : ∀ d ∈ ds, d.plain = true) : (D.tup ds).plain = true := by
  obtain ⟨ps, hp⟩ := pys_of h
  unfold D.plain D.py
  rw [hp]; rfl
theorem plain_lst {ds : List D} (h : ∀ d ∈ ds, d.plain = true) : (D.lst ds).plain = true := by
  obtain ⟨ps, hp⟩ := pys_of h
  unfold D.plain D.py
  rw [hp]; rfl
end
end PD
namespace PD
open PySem PySem.Spec PyProof.Rows L2 RZ
section
variable {g : G} {ρ : Rho} {B B1 B2 : Bag} {a b e : Expr} {pos p p2 : Pos} {x y z d : D} {ds : List D} {sts : List Stmt} {E : En} {es : List Expr} {n : Str}
theorem exs_fgt : ∀ {is : List Nat} {ρ : Rho}, Exs g sts (fgt ρ is) B E → Exs g sts ρ B E
  | [], _, h => h
  | i :: is, ρ, h => exs_fgt (is := is) (exs_u (i := i) h)
theorem pys_ints : ∀ ns : List Int, D.pys (ns.map D.int) = some (ns.map PyData.int)
  | [] => by unfold D.pys; rfl
  | n :: ns => by
    rw [List.map_cons, List.map_cons]
    unfold D.pys
    rw [pys_ints ns]
    unfold D.py
    rfl
theorem py_lst (ns : List Nat) : (D.lst (ns.map nD)).py = some (.list ((ns.map fun n : Nat => (n : Int)).map .int)) := by
  unfold D.py
  rw [map_nD, pys_ints]
  rfl
theorem py_tup (ns : List Nat) : (D.tup (ns.map nD)).py = some (.tuple ((ns.map fun n : Nat => (n : Int)).map .int)) := by
  unfold D.py
  rw [map_nD, pys_ints]
  rfl
theorem depthInts : ∀ ns : List Int, PyData.depthAll (ns.map PyData.int) ≤ 1
  | [] => by decide
  | n :: ns => by
    have := depthInts ns
    rw [List.map_cons]
    unfold PyData.depthAll
    exact Nat.max_le.mpr ⟨by unfold PyData.depth; omega, this⟩
theorem canInts : ∀ ns : List Int, PyData.canLayAll0 (ns.map PyData.int) = true
  | [] => by simp [PyData.canLayAll0]
  | n :: ns => by simp [PyData.canLayAll0, PyData.canLay0, canInts ns]
theorem shaped_list (ns : List Int) : SeqAt.shaped (.list (ns.map .int)) = true := by
  have h := depthInts ns
  unfold SeqAt.shaped PyData.canLay0 PyData.depth
  rw [canInts]
  simp
  omega
theorem shaped_tup (ns : List Int) : SeqAt.shaped (.tuple (ns.map .int)) = true := by
  have h := depthInts ns
  unfold SeqAt.shaped PyData.canLay0 PyData.depth
  rw [canInts]
  simp
  omega
theorem eqvInts : ∀ xs ys : List Int, PyData.eqvAll (xs.map .int) (ys.map .int) = decide (xs = ys)
  | [], [] => by simp [PyData.eqvAll]
  | [], y :: ys => by simp [PyData.eqvAll]
  | x :: xs, [] => by simp [PyData.eqvAll]
  | x :: xs, y :: ys => by
    rw [List.map_cons, List.map_cons]
    unfold PyData.eqvAll
    rw [eqvInts xs ys]
    unfold PyData.eqv
    by_cases h : x = y <;> by_cases h2 : xs = ys <;> simp [h, h2]
theorem cast_inj {xs ys : List Nat} : ((xs.map fun n : Nat => (n : Int)) = ys.map fun n : Nat => (n : Int)) ↔ xs = ys := by
  constructor
  · intro h
    have : ∀ xs ys : List Nat, ((xs.map fun n : Nat => (n : Int)) = ys.map fun n : Nat => (n : Int)) → xs = ys := by
      intro xs
      induction xs with
      | nil => intro ys h; cases ys with
        | nil => rfl
        | cons y ys => cases h
      | cons x xs ih => intro ys h; cases ys with
        | nil => cases h
        | cons y ys =>
          rw [List.map_cons, List.map_cons] at h
          injection h with h1 h2
          rw [ih ys h2]
          rw [show x = y by omega]
    exact this xs ys h
  · intro h; rw [h]
theorem c_eqL {xs ys : List Nat} : BinD g (compareOp .Eq) (.lst (xs.map nD)) (.lst (ys.map nD)) (.d (.bl (decide (xs = ys)))) := by
  have h := c_eqD (g := g) (py_lst xs) (py_lst ys) (shaped_list _) (shaped_list _)
  unfold PyData.eqv at h
  rw [eqvInts, show decide ((xs.map fun n : Nat => (n : Int)) = ys.map fun n : Nat => (n : Int)) = decide (xs = ys) from decide_eq_decide.mpr cast_inj] at h
  exact h
theorem c_neL {xs ys : List Nat} : BinD g (compareOp .NotEq) (.lst (xs.map nD)) (.lst (ys.map nD)) (.d (.bl (!decide (xs = ys)))) := by
  have h := c_neD (g := g) (py_lst xs) (py_lst ys) (shaped_list _) (shaped_list _)
  unfold PyData.eqv at h
  rw [eqvInts, show decide ((xs.map fun n : Nat => (n : Int)) = ys.map fun n : Nat => (n : Int)) = decide (xs = ys) from decide_eq_decide.mpr cast_inj] at h
  exact h
theorem c_eqT {xs ys : List Nat} : BinD g (compareOp .Eq) (.tup (xs.map nD)) (.tup (ys.map nD)) (.d (.bl (decide (xs = ys)))) := by
  have h := c_eqD (g := g) (py_tup xs) (py_tup ys) (shaped_tup _) (shaped_tup _)
  unfold PyData.eqv at h
  rw [eqvInts, show decide ((xs.map fun n : Nat => (n : Int)) = ys.map fun n : Nat => (n : Int)) = decide (xs = ys) from decide_eq_decide.mpr cast_inj] at h
  exact h
theorem c_eqP {i j k l : Int} : BinD g (compareOp .Eq) (.tup [.int i, .int j]) (.tup [.int k, .int l]) (.d (.bl (decide (i = k) && decide (j = l)))) := by
  have h := c_eqD (g := g) (x := .tup [.int i, .int j]) (y := .tup [.int k, .int l]) (px := .tuple ([i, j].map .int)) (py := .tuple ([k, l].map .int)) (by unfold D.py; rw [show ([.int i, .int j] : List D) = [i, j].map .int from rfl, pys_ints]; rfl) (by unfold D.py; rw [show ([.int k, .int l] : List D) = [k, l].map .int from rfl, pys_ints]; rfl) (shaped_tup _) (shaped_tup _)
  unfold PyData.eqv at h
  rw [eqvInts] at h
  have e : decide ([i, j] = [k, l]) = (decide (i = k) && decide (j = l)) := by simp
  rw [e] at h
  exact h
/-- sorted whole numbers of folk -/
def sortN (ns : List Nat) : List Nat := ns.mergeSort (fun a b => decide (a ≤ b))
theorem sortN_perm (ns : List Nat) : (sortN ns).Perm ns := List.mergeSort_perm _ _
theorem sortN_pair (ns : List Nat) : (sortN ns).Pairwise (· ≤ ·) := by
  have h := List.pairwise_mergeSort (le := fun a b : Nat => decide (a ≤ b)) (fun a b c h1 h2 => by simp at *; omega) (fun a b => by simp; omega) ns
  exact h.imp fun h => by simpa using h
theorem sortL_N (ns : List Nat) : (sortL (ns.map fun n : Nat => (n : Int))).map D.int = (sortN ns).map nD := by
  rw [map_nD]
  congr 1
  refine (sortL_eq ((sortN_perm ns).map _) ?_).symm
  rw [List.pairwise_map]
  exact (sortN_pair ns).imp fun h => by omega
theorem k_sortN {ns : List Nat} : CallD g (.builtin "sorted") [.lst (ns.map nD)] (.o (.l ((sortN ns).map nD))) := by
  rw [← sortL_N, map_nD]
  exact k_sortI
/-- a guard that is passed by -/
theorem ex_skip {as : List Stmt} (hc : Ts g e ρ B false B1) (h : E.nx ρ B1) : Ex g (.If e as [] pos) ρ B E := ex_if hc (fun h => nomatch h) fun _ => exs_nil h
theorem ex_then {as bs : List Stmt} (hc : Ts g e ρ B true B1) (h : Exs g as ρ B1 E) : Ex g (.If e as bs pos) ρ B E := ex_if hc (fun _ => h) fun h => nomatch h
theorem ev_andT {rest : List Expr} (ha : Ev g a ρ B (.bl true) B) (hb : Ev g (.BoolOp .And (b :: rest) pos) ρ B (.bl true) B) : Ev g (.BoolOp .And (a :: b :: rest) pos) ρ B (.bl true) B := ev_and (k := true) (k' := true) ha (fun _ => hb) fun h => nomatch h
theorem ev_andP {k k' : Bool} {rest : List Expr} (ha : Ev g a ρ B (.bl k) B) (hb : k = true → Ev g (.BoolOp .And (b :: rest) pos) ρ B (.bl k') B) : Ev g (.BoolOp .And (a :: b :: rest) pos) ρ B (.bl (k && k')) B := ev_and ha hb fun _ => rfl
theorem ev_orP {k k' : Bool} {rest : List Expr} (ha : Ev g a ρ B (.bl k) B) (hb : k = false → Ev g (.BoolOp .Or (b :: rest) pos) ρ B (.bl k') B) : Ev g (.BoolOp .Or (a :: b :: rest) pos) ρ B (.bl (k || k')) B := ev_or ha hb fun _ => rfl
theorem tw_orP {k k' : Bool} {rest : List Expr} (ha : Ts g a ρ B k B) (hb : k = false → Tw g (.BoolOp .Or (b :: rest) pos) ρ B k' B) : Tw g (.BoolOp .Or (a :: b :: rest) pos) ρ B (k || k') B := tw_or ha hb fun _ => rfl
theorem tw_orF {rest : List Expr} (ha : Ts g a ρ B false B) (hb : Tw g (.BoolOp .Or (b :: rest) pos) ρ B false B) : Tw g (.BoolOp .Or (a :: b :: rest) pos) ρ B false B := tw_or (k := false) (k' := false) ha (fun _ => hb) fun h => nomatch h
theorem tw_orP1 {k : Bool} (ha : Ts g a ρ B k B) : Tw g (.BoolOp .Or [a] pos) ρ B k B := tw_or1 ha
theorem tw_andP {k k' : Bool} {rest : List Expr} (ha : Ts g a ρ B k B) (hb : k = true → Tw g (.BoolOp .And (b :: rest) pos) ρ B k' B) : Tw g (.BoolOp .And (a :: b :: rest) pos) ρ B (k && k') B := tw_and ha hb fun _ => rfl
/-! calls of the built-ins, for short -/
theorem ev_len (bl : Bl g.T) (ha : Ev g a ρ B x B1) (hx : x.seq = some ds) (hg : Glb g "len" := by rfl) (he : ∀ env : Env, starEach [a] env = (false, eval a env) :: starEach [] env := by intro _; rfl) (hpl : ∀ env : Env, (backTo pos (starEach [] env)).any (·.1) = false := by intro _; rfl) : Ev g (.Call (.Name "len" p) [a] [] pos) ρ B (nD ds.length) B1 :=
  ev_callB (k_len hx) hg bl.len bt_len (evs_cons ha evs_nil he) (by decide) (by decide) he hpl
theorem ev_all (bl : Bl g.T) {bs : List Bool} (ha : Ev g a ρ B (.lst (bs.map .bl)) B1) (hg : Glb g "all" := by rfl) (he : ∀ env : Env, starEach [a] env = (false, eval a env) :: starEach [] env := by intro _; rfl) (hpl : ∀ env : Env, (backTo pos (starEach [] env)).any (·.1) = false := by intro _; rfl) : Ev g (.Call (.Name "all" p) [a] [] pos) ρ B (.bl (bs.all id)) B1 :=
  ev_callB k_all hg bl.all bt_all (evs_cons ha evs_nil he) (by decide) (by decide) he hpl
theorem ev_any (bl : Bl g.T) {bs : List Bool} (ha : Ev g a ρ B (.lst (bs.map .bl)) B1) (hg : Glb g "any" := by rfl) (he : ∀ env : Env, starEach [a] env = (false, eval a env) :: starEach [] env := by intro _; rfl) (hpl : ∀ env : Env, (backTo pos (starEach [] env)).any (·.1) = false := by intro _; rfl) : Ev g (.Call (.Name "any" p) [a] [] pos) ρ B (.bl (bs.any id)) B1 :=
  ev_callB k_any hg bl.any bt_any (evs_cons ha evs_nil he) (by decide) (by decide) he hpl
theorem ev_sum (bl : Bl g.T) {ns : List Int} (ha : Ev g a ρ B (.lst (ns.map .int)) B1) (hg : Glb g "sum" := by rfl) (he : ∀ env : Env, starEach [a] env = (false, eval a env) :: starEach [] env := by intro _; rfl) (hpl : ∀ env : Env, (backTo pos (starEach [] env)).any (·.1) = false := by intro _; rfl) : Ev g (.Call (.Name "sum" p) [a] [] pos) ρ B (.int ns.sum) B1 :=
  ev_callB k_sum hg bl.sum bt_sum (evs_cons ha evs_nil he) (by decide) (by decide) he hpl
theorem ev_max (bl : Bl g.T) {ns : List Int} (ha : Ev g a ρ B (.lst (ns.map .int)) B1) (hn : ns ≠ []) (hg : Glb g "max" := by rfl) (he : ∀ env : Env, starEach [a] env = (false, eval a env) :: starEach [] env := by intro _; rfl) (hpl : ∀ env : Env, (backTo pos (starEach [] env)).any (·.1) = false := by intro _; rfl) : Ev g (.Call (.Name "max" p) [a] [] pos) ρ B (.int (maxL ns)) B1 :=
  ev_callB (k_max hn) hg bl.max bt_max (evs_cons ha evs_nil he) (by decide) (by decide) he hpl
theorem ev_min (bl : Bl g.T) {ns : List Int} (ha : Ev g a ρ B (.lst (ns.map .int)) B1) (hn : ns ≠ []) (hg : Glb g "min" := by rfl) (he : ∀ env : Env, starEach [a] env = (false, eval a env) :: starEach [] env := by intro _; rfl) (hpl : ∀ env : Env, (backTo pos (starEach [] env)).any (·.1) = false := by intro _; rfl) : Ev g (.Call (.Name "min" p) [a] [] pos) ρ B (.int (minL ns)) B1 :=
  ev_callB (k_min hn) hg bl.min bt_min (evs_cons ha evs_nil he) (by decide) (by decide) he hpl
theorem ev_tuple (bl : Bl g.T) (ha : Ev g a ρ B x B1) (hx : x.seq = some ds) (hg : Glb g "tuple" := by rfl) (he : ∀ env : Env, starEach [a] env = (false, eval a env) :: starEach [] env := by intro _; rfl) (hpl : ∀ env : Env, (backTo pos (starEach [] env)).any (·.1) = false := by intro _; rfl) : Ev g (.Call (.Name "tuple" p) [a] [] pos) ρ B (.tup ds) B1 :=
  ev_callTy (k_tuple hx) hg bl.tuple bt_tuple (evs_cons ha evs_nil he) (by decide) (by decide) he hpl
theorem evr_sorted (bl : Bl g.T) {r : Res} (hc : CallD g (.builtin "sorted") [x] r) (ha : Ev g a ρ B x B1) (hg : Glb g "sorted" := by rfl) (he : ∀ env : Env, starEach [a] env = (false, eval a env) :: starEach [] env := by intro _; rfl) (hpl : ∀ env : Env, (backTo pos (starEach [] env)).any (·.1) = false := by intro _; rfl) : EvR g (.Call (.Name "sorted" p) [a] [] pos) ρ B r B1 :=
  ev_callB hc hg bl.sorted bt_sorted (evs_cons ha evs_nil he) (by decide) (by decide) he hpl
/-- comprehensions with the bag, typed elements, the turns counted -/
def mapT {α γ : Type} (f : α → Bag → γ × Bag) : List α → Bag → List γ × Bag
  | [], B => ([], B)
  | a :: xs, B => ((f a B).1 :: (mapT f xs (f a B).2).1, (mapT f xs (f a B).2).2)
theorem mapT_inv {α γ : Type} {f : α → Bag → γ × Bag} (P : Nat → Bag → Prop) (Q : γ → Prop) : ∀ (xs : List α) (B : Bag) (n : Nat), P n B → (∀ a ∈ xs, ∀ m B, n ≤ m → m < n + xs.length → P m B → P (m + 1) (f a B).2 ∧ Q (f a B).1) → P (n + xs.length) (mapT f xs B).2 ∧ (∀ y ∈ (mapT f xs B).1, Q y) ∧ (mapT f xs B).1.length = xs.length
  | [], B, n, h, _ => ⟨h, fun y hy => (nomatch hy), rfl⟩
  | a :: xs, B, n, h, hs => by
    obtain ⟨h1, h2⟩ := hs a List.mem_cons_self n B (Nat.le_refl _) (by simp) h
    obtain ⟨g1, g2, g3⟩ := mapT_inv P Q xs _ (n + 1) h1 fun b hb m B hm hl => hs b (List.mem_cons_of_mem _ hb) m B (by omega) (by simp; omega)
    refine ⟨by rw [List.length_cons, show n + (xs.length + 1) = n + 1 + xs.length by omega]; exact g1, fun y hy => ?_, by show _ + 1 = _; rw [g3]; rfl⟩
    rcases List.mem_cons.mp hy with rfl | hy
    · exact h2
    · exact g2 y hy
end
section
variable {α γ : Type} {g : G} {ρ ρb : Rho} {B B1 : Bag} {tg iter elt : Expr} {scope : Scope} {own : List (Str × Nat)} {pos : Pos}
theorem run_bagI {S : D → Bag → Option D → Bag → Prop} (P : Nat → Bag → Prop) (em : α → D) (en : γ → D) (f : α → Bag → γ × Bag) : ∀ (xs : List α) (B : Bag) (n : Nat), P n B → (∀ a ∈ xs, ∀ m B, n ≤ m → m < n + xs.length → P m B → S (em a) B (some (en (f a B).1)) (f a B).2 ∧ P (m + 1) (f a B).2) → LcRun S (xs.map em) B ((mapT f xs B).1.map en) (mapT f xs B).2
  | [], B, n, _, _ => .nil
  | a :: xs, B, n, hP, h => .keep (h a List.mem_cons_self n B (Nat.le_refl _) (by simp) hP).1 (run_bagI P em en f xs _ (n + 1) (h a List.mem_cons_self n B (Nat.le_refl _) (by simp) hP).2 fun b hb m B hm hl => h b (List.mem_cons_of_mem _ hb) m B (by omega) (by simp; omega))
theorem ev_lcBI (P : Nat → Bag → Prop) (xs : List α) (em : α → D) (en : γ → D) (f : α → Bag → γ × Bag) (hi : ItD g tg iter ρ B (xs.map em) B1) (ok : blkC g.N g.sc scope own = true) (hρ : noOwn (fgt ρ (own.map (·.2))) = ρb) (hl : xs.length ≤ 1000000) (hP : P 0 B1)
    (ht : ∀ a ∈ xs, ∀ m B, m < xs.length → P m B → (∃ ρ' js, Tg (blkG g scope) tg ρb (em a) ρ' js ∧ (∀ i ∈ js, i ∈ own.map (·.2)) ∧ Ev (blkG g scope) elt ρ' B (en (f a B).1) (f a B).2) ∧ P (m + 1) (f a B).2)
    (hf : ∀ (env : Env) x, foldedSetIterable iter env x = pure x := by intro _ _; rfl) : Ev g (.ListComp elt [⟨tg, iter, [], 0⟩] scope pos) ρ B (.lst ((mapT f xs B1).1.map en)) (mapT f xs B1).2 := by
  refine (evr_lc hi ok hρ (run_bagI P em en f xs B1 0 hP fun a ha m B _ hm hB => ?_) (by rw [List.length_map]; exact hl) hf).fz
  obtain ⟨⟨ρ', js, h1, h2, h3⟩, h4⟩ := ht a ha m B (by omega) hB
  exact ⟨⟨ρ', js, true, B, h1, h2, tsl_nil, rfl, h3⟩, h4⟩
variable {ifs : List Expr} {n : Str}
theorem ev_lcE (em : α → D) (en : γ → D) (q : α → γ) (xs : List α) (hi : ItD g tg iter ρ B (xs.map em) B1) (ok : blkC g.N g.sc scope own = true) (hρ : noOwn (fgt ρ (own.map (·.2))) = ρb) (hl : xs.length ≤ 1000000)
    (ht : ∀ a ∈ xs, LcP (blkG g scope) tg elt [] ρb (own.map (·.2)) B1 (em a) true (en (q a)))
    (hf : ∀ (env : Env) x, foldedSetIterable iter env x = pure x := by intro _ _; rfl) : Ev g (.ListComp elt [⟨tg, iter, [], 0⟩] scope pos) ρ B (.lst ((xs.map q).map en)) B1 := by
  rw [List.map_map]
  exact ev_lc0 xs em (fun a => en (q a)) hi ok hρ hl ht hf
theorem ev_lcF (em : α → D) (en : γ → D) (p : α → Bool) (q : α → γ) (xs : List α) (hi : ItD g tg iter ρ B (xs.map em) B1) (ok : blkC g.N g.sc scope own = true) (hρ : noOwn (fgt ρ (own.map (·.2))) = ρb) (hl : xs.length ≤ 1000000)
    (ht : ∀ a ∈ xs, LcP (blkG g scope) tg elt ifs ρb (own.map (·.2)) B1 (em a) (p a) (en (q a)))
    (hf : ∀ (env : Env) x, foldedSetIterable iter env x = pure x := by intro _ _; rfl) : Ev g (.ListComp elt [⟨tg, iter, ifs, 0⟩] scope pos) ρ B (.lst (((xs.filter p).map q).map en)) B1 := by
  rw [List.map_map]
  exact ev_lcP xs em p (fun a => en (q a)) hi ok hρ hl ht hf
theorem evr_lcE (em : α → D) (en : γ → D) (q : α → γ) (xs : List α) (hi : ItD g tg iter ρ B (xs.map em) B1) (ok : blkC g.N g.sc scope own = true) (hρ : noOwn (fgt ρ (own.map (·.2))) = ρb) (hl : xs.length ≤ 1000000)
    (ht : ∀ a ∈ xs, LcP (blkG g scope) tg elt [] ρb (own.map (·.2)) B1 (em a) true (en (q a)))
    (hf : ∀ (env : Env) x, foldedSetIterable iter env x = pure x := by intro _ _; rfl) : EvR g (.ListComp elt [⟨tg, iter, [], 0⟩] scope pos) ρ B (.o (.l ((xs.map q).map en))) B1 := by
  rw [List.map_map]
  exact evr_lc0 xs em (fun a => en (q a)) hi ok hρ hl ht hf
theorem ex_setE {i : Nat} {py spos : Pos} {E : En} (em : α → D) (en : γ → D) (q : α → γ) (xs : List α) (s : St1 g i n) (hy : g.sc.names.lookup n = some .local) (hi : ItD g tg iter ρ B (xs.map em) B1) (ok : blkC g.N g.sc scope own = true) (hρ : noOwn (fgt ρ (own.map (·.2))) = ρb) (hl : xs.length ≤ 1000000)
    (ht : ∀ a ∈ xs, LcP (blkG g scope) tg elt [] ρb (own.map (·.2)) B1 (em a) true (en (q a))) (h : E.nx (ρ.set i (.d (.lst ((xs.map q).map en)))) B1)
    (hl2 : (py.line == pos.line) = true := by rfl) (ha : (scope.names.any fun (m, k) => m == n && (k == .local || k == .cell)) = false := by decide +kernel)
    (hf : ∀ (env : Env) x, foldedSetIterable iter env x = pure x := by intro _ _; rfl) : Ex g (.Assign [.Name n py] (.ListComp elt [⟨tg, iter, [], 0⟩] scope pos) spos) ρ B E := by
  rw [List.map_map] at h
  exact ex_setLcD s hy hi ok hρ (LcP.run0 ht) (by rw [List.length_map]; exact hl) h hl2 ha hf
theorem ex_setF {i : Nat} {py spos : Pos} {E : En} (em : α → D) (en : γ → D) (p : α → Bool) (q : α → γ) (xs : List α) (s : St1 g i n) (hy : g.sc.names.lookup n = some .local) (hi : ItD g tg iter ρ B (xs.map em) B1) (ok : blkC g.N g.sc scope own = true) (hρ : noOwn (fgt ρ (own.map (·.2))) = ρb) (hl : xs.length ≤ 1000000)
    (ht : ∀ a ∈ xs, LcP (blkG g scope) tg elt ifs ρb (own.map (·.2)) B1 (em a) (p a) (en (q a))) (h : E.nx (ρ.set i (.d (.lst (((xs.filter p).map q).map en)))) B1)
    (hl2 : (py.line == pos.line) = true := by rfl) (ha : (scope.names.any fun (m, k) => m == n && (k == .local || k == .cell)) = false := by decide +kernel)
    (hf : ∀ (env : Env) x, foldedSetIterable iter env x = pure x := by intro _ _; rfl) : Ex g (.Assign [.Name n py] (.ListComp elt [⟨tg, iter, ifs, 0⟩] scope pos) spos) ρ B E := by
  rw [List.map_map] at h
  exact ex_setLcD s hy hi ok hρ (LcP.run ht) (by rw [List.length_map]; exact hl) h hl2 ha hf
end
section
variable {α : Type} {g : G} {ρ ρ1 : Rho} {B : Bag} {tg iter tg1 iter1 elt : Expr} {ifs ifs1 : List Expr} {is vs1 : List Nat}
/-- an outer turn of two clauses, pure, typed -/
structure L2P (g : G) (tg tg1 iter1 elt : Expr) (ifs : List Expr) (ρ : Rho) (is vs1 : List Nat) (B : Bag) (d : D) (k : Bool) (out : List D) : Prop where
  ex : ∃ ρ' js, Tg g tg ρ d ρ' js ∧ (∀ i ∈ js, i ∈ is) ∧ TsL g ifs ρ' B k B ∧ (k = true → ∃ ds1 ρ1, ItD g tg1 iter1 ρ' B ds1 B ∧ noOwn (fgt ρ' vs1) = ρ1 ∧ LcRun (LcTurn g tg1 elt [] ρ1 vs1) ds1 B out B ∧ ds1.length ≤ 1000)
theorem L2P.run {em : α → D} {k : α → Bool} {out : α → List D} : ∀ {xs : List α}, (∀ a ∈ xs, L2P g tg tg1 iter1 elt ifs ρ is vs1 B (em a) (k a) (out a)) → L2Run (L2Turn g tg tg1 iter1 elt ifs [] ρ is vs1) (xs.map em) B ((xs.filter k).flatMap out) B
  | [], _ => .nil
  | a :: xs, h => by
    have ih := L2P.run (xs := xs) fun b hb => h b (List.mem_cons_of_mem _ hb)
    obtain ⟨ρ', js, h1, h2, h3, h4⟩ := (h a List.mem_cons_self).ex
    rw [List.map_cons]
    cases hk : k a with
    | true =>
      rw [hk] at h3
      obtain ⟨ds1, ρ1, g1, g2, g3, g4⟩ := h4 hk
      rw [List.filter_cons_of_pos hk, List.flatMap_cons]
      exact .cons ⟨ρ', js, true, B, h1, h2, h3, (fun h => nomatch h), fun _ => ⟨ds1, B, ρ1, g1, g2, g3, g4⟩⟩ ih
    | false =>
      rw [hk] at h3
      rw [List.filter_cons_of_neg (by rw [hk]; exact Bool.false_ne_true)]
      exact L2Run.cons (o1 := []) ⟨ρ', js, false, B, h1, h2, h3, fun _ => ⟨rfl, rfl⟩, fun h => nomatch h⟩ ih
end
theorem zipD_map {α β : Type} (f : α → D) (h : β → D) (xs : List α) (ys : List β) : zipD (xs.map f) (ys.map h) = (xs.zip ys).map fun p => .tup [f p.1, h p.2] := by
  unfold zipD
  rw [List.zip_map, List.map_map]
  rfl
/-- marks of folk, in the order of their first coming -/
def insN (ks : List Nat) (k : Nat) : List Nat := if k ∈ ks then ks else ks ++ [k]
def dedN (ns : List Nat) : List Nat := ns.foldl insN []
theorem insK_cast (ks : List Nat) (k : Nat) : insK (ks.map fun n : Nat => (n : Int)) (k : Int) = (insN ks k).map fun n : Nat => (n : Int) := by
  unfold insK insN
  by_cases h : k ∈ ks
  · rw [if_pos h, if_pos (List.mem_map.mpr ⟨k, h, rfl⟩)]
  · rw [if_neg h, if_neg (fun z => by
      obtain ⟨m, h1, h2⟩ := List.mem_map.mp z
      exact h (by rwa [show k = m by omega])), List.map_append]
    rfl
theorem insK_casts : ∀ (ns ks : List Nat), (ns.map fun n : Nat => (n : Int)).foldl insK (ks.map fun n : Nat => (n : Int)) = (ns.foldl insN ks).map fun n : Nat => (n : Int)
  | [], _ => rfl
  | n :: ns, ks => by rw [List.map_cons, List.foldl_cons, List.foldl_cons, insK_cast, insK_casts ns]
theorem dedN_cast (ns : List Nat) : (ns.map fun n : Nat => (n : Int)).foldl insK [] = (dedN ns).map fun n : Nat => (n : Int) := insK_casts ns []
theorem insN_spec : ∀ (ns ks : List Nat), ks.Nodup → (ns.foldl insN ks).Nodup ∧ ∀ w, w ∈ ns.foldl insN ks ↔ w ∈ ks ∨ w ∈ ns
  | [], ks, h => ⟨h, fun w => by simp⟩
  | n :: ns, ks, h => by
    have hn : (insN ks n).Nodup := by
      unfold insN
      split
      · exact h
      · rename_i h2
        exact List.nodup_append.mpr ⟨h, List.nodup_cons.mpr ⟨by simp, List.nodup_nil⟩, fun a ha b hb e => by simp at hb; subst hb; subst e; exact h2 ha⟩
    have hm : ∀ w, w ∈ insN ks n ↔ w ∈ ks ∨ w = n := fun w => by
      unfold insN
      split
      · rename_i h2
        exact ⟨.inl, fun z => z.elim id fun e => e ▸ h2⟩
      · simp
    obtain ⟨g1, g2⟩ := insN_spec ns _ hn
    refine ⟨g1, fun w => ?_⟩
    rw [List.foldl_cons, g2, hm, List.mem_cons, or_assoc]
theorem insK_spec : ∀ (ns ks : List Int), ks.Nodup → (ns.foldl insK ks).Nodup ∧ ∀ w, w ∈ ns.foldl insK ks ↔ w ∈ ks ∨ w ∈ ns
  | [], ks, h => ⟨h, fun w => by simp⟩
  | n :: ns, ks, h => by
    have hn : (insK ks n).Nodup := by
      unfold insK
      split
      · exact h
      · rename_i h2
        exact List.nodup_append.mpr ⟨h, List.nodup_cons.mpr ⟨by simp, List.nodup_nil⟩, fun a ha b hb e => by simp at hb; subst hb; subst e; exact h2 ha⟩
    have hm : ∀ w, w ∈ insK ks n ↔ w ∈ ks ∨ w = n := fun w => by
      unfold insK
      split
      · rename_i h2
        exact ⟨.inl, fun z => z.elim id fun e => e ▸ h2⟩
      · simp
    obtain ⟨g1, g2⟩ := insK_spec ns _ hn
    refine ⟨g1, fun w => ?_⟩
    rw [List.foldl_cons, g2, hm, List.mem_cons, or_assoc]
theorem insK_le : ∀ (ns ks : List Int), (ns.foldl insK ks).length ≤ ks.length + ns.length
  | [], _ => Nat.le_refl _
  | n :: ns, ks => by
    have := insK_le ns (insK ks n)
    have := insK_len ks n
    rw [List.foldl_cons, List.length_cons]
    omega
theorem sortL_perm (ns : List Int) : (sortL ns).Perm ns := List.mergeSort_perm _ _
theorem sw_cell {g : G} {elt : Expr} {gs : List Comprehension} {scope : Scope} {pos py : Pos} {n : Str} {l : Nat} (h : g.sc.names.lookup n = some .cell) : ∀ env : Env, env.scope = g.sc → swapsWith (.ListComp elt gs scope pos) (some (.Name n py)) l env = pure false := by
  intro env he
  unfold swapsWith
  have hk : env.kindOf n = some .cell := by show env.scope.names.lookup n = _; rw [he]; exact h
  have h1 : (env.kindOf n == some NameKind.local) = false := by rw [hk]; rfl
  simp only [h1, Bool.and_false, Bool.false_and]
theorem ss_cell {g : G} {a b : Expr} {n n2 : Str} {px py pt pt2 : Pos} {kt k2 : Nat} (h : g.sc.names.lookup n2 = some .cell) : ∀ env : Env, env.scope = g.sc → swappedStores [.Tuple [.Name n px, .Name n2 py] kt pt] (.Tuple [a, b] k2 pt2) env = pure none := by
  intro env he
  have hk : env.kindOf n2 = some .cell := by show env.scope.names.lookup n2 = _; rw [he]; exact h
  have hc : (some NameKind.cell == some NameKind.local) = false := by decide
  unfold swappedStores
  simp only [List.filterMap_cons, List.filterMap_nil, hk, hc, Bool.false_and, Bool.false_eq_true, if_false]
  cases hb : (env.kindOf n == some NameKind.local && px.line == (Option.map (fun x => x.pos.line) [Expr.Name n px, Expr.Name n2 py].head?).getD 0)
  all_goals
    simp only [Bool.false_eq_true, if_false, if_true]
    split
    · rfl
    · split
      · rfl
      · rw [if_pos (by simp)]
theorem ss_non {n n2 : Str} {px py pt pt2 q1 q2 : Pos} {kt k2 : Nat} {j1 j2} : ∀ env : Env, swappedStores [.Tuple [.Name n px, .Name n2 py] kt pt] (.Tuple [.Constant .none j1 q1, .Constant .none j2 q2] k2 pt2) env = pure none := by
  intro env
  have h : (([.Constant .none j1 q1, .Constant .none j2 q2] : List Expr).all (foldedForSure 8)) = true := by rfl
  unfold swappedStores
  simp only [h]
  split
  · rfl
  · split
    · rfl
    · split
      · rfl
      · rfl
theorem ex_asgS {g : G} {ρ ρ' : Rho} {B B1 : Bag} {tg e : Expr} {x : D} {is : List Nat} {pos : Pos} {E : En} (he : Ev g e ρ B x B1) (ht : Tg g tg ρ x ρ' is) (h : E.nx ρ' B1) (hw : ∀ env : Env, env.scope = g.sc → swappedStores [tg] e env = pure none) (hs : ∀ env : Env, swapsWithSole [tg] e pos.line env = pure false := by intro _; rfl)
    (h1 : ∀ env : Env, (assignEach [tg] env).map (·.2) = [assign tg env] := by intro _; rfl) : Ex g (.Assign [tg] e pos) ρ B E :=
  ⟨fun X hX => PS.imp (ps_asg (he.h X hX) (ht.h X hX) (hs X.env) (hw X.env hX.hs) (h1 X.env)) fun D σ H ⟨c, F, R, q1, _⟩ => ⟨c, F, R, fun v H' F' R' e' ok _ => ⟨c, B1, F', R', ok, fun σ' R2 _ => q1 ρ' B1 σ' H' F' R2 e' h⟩⟩⟩
theorem EvR.to {g : G} {ρ : Rho} {B B1 : Bag} {e : Expr} {x y : D} (h : Ev g e ρ B x B1) (z : x = y) : Ev g e ρ B y B1 := z ▸ h
theorem cutD_one (xs : List D) : cutD xs (some 1) none = xs.drop 1 := by
  unfold cutD
  rw [show (1 : Int) = ((1 : Nat) : Int) from rfl, HT.sIx_nat, HT.sIx_none]
  rw [List.take_of_length_le (by rw [List.length_drop]; exact Nat.le_refl _)]
  cases xs with
  | nil => rfl
  | cons x xs => rw [show min 1 (x :: xs).length = 1 by simp]
theorem zip_tail (os : List Nat) : zipD (os.map nD) ((os.map nD).drop 1) = (os.zip (os.drop 1)).map fun p => .tup [nD p.1, nD p.2] := by
  unfold zipD
  rw [← List.map_drop, List.zip_map, List.map_map]
  rfl
end PD
namespace PD
open PySem PySem.Spec PyProof.Rows L2 RZ
section
variable {g : G} {ρ ρb : Rho} {B B1 B2 : Bag} {tg iter tg1 iter1 kx : Expr} {ifs ifs1 : List Expr} {scope : Scope} {own : List (Str × Nat)} {pos : Pos} {ds : List D}
theorem lc2_read {out : List D} {wi : TI} {σ : L2.St} {H : Hp} {Q : VK} {vs1 : List Nat} (hρ : noOwn (fgt ρ (own.map (·.2))) = ρb) (hvs : ∀ i ∈ vs1, i ∈ own.map (·.2))
    (qi : ∀ (c : C0) (σ : L2.St) (H F : Hp) (Re : It → Hp → Prop), Rel g.T.K c ρ B σ H F → (∀ J H1 F1, Rel g.T.K c ρ B1 σ H1 F1 → Same F F1 → WalkD g.T.K c.β J ds F1 → Re J H1) → wi σ H Re)
    (run : L2Run (L2Turn (blkG g scope) tg tg1 iter1 kx ifs ifs1 ρb (own.map (·.2)) vs1) ds B1 out B2) (hlen : ds.length ≤ 1000) (h : tEv g.T.K ρ B (.o (.l out)) B2 σ H Q) :
    tLc2 wi (rdG (blkG g scope) tg) (rdT (blkG g scope) ifs) (rdI (blkG g scope) tg1 iter1) (rdG (blkG g scope) tg1) (rdT (blkG g scope) ifs1) (rdE (blkG g scope) kx) (own.map (·.2)) vs1 σ H Q := by
  have hz : (sizeLine : Nat) = 16777216 := sizeLine_eq
  obtain ⟨c, F, R, q⟩ := h
  refine qi c σ H F _ R fun J1 H1 F1 R1 e1 w => ?_
  intro L nL
  have n0 : c.H0 L = none := R1.H0_none nL
  have hap : ∀ (i : Nat) (ct : Ct) (q : Addr), ρ[i]? = some (.o ct) → σ[i]? = some (some (.ref q)) → q ≠ L := fun i ct p h1 h2 z => R1.apart (r := .o ct) nL ct rfl i ct p h1 h2 (by rw [z])
  refine ⟨fun i m H' => m = ds.length - i ∧ i ≤ ds.length ∧ ∃ (F' : Hp) (done : List D) (ks : List V) (Bi : Bag) (rest : List D), Rel g.T.K c ρ Bi σ H' F' ∧ Same F1 F' ∧ H' L = some (.lst ks) ∧ F' L = none ∧ RepAll g.T.K c.β F' done ks ∧ ks.length ≤ i * 1000 ∧
      L2Run (L2Turn (blkG g scope) tg tg1 iter1 kx ifs ifs1 ρb (own.map (·.2)) vs1) (ds.drop i) Bi rest B2 ∧ done ++ rest = out, ⟨_, rfl, Nat.zero_le _, F1, [], [], B1, out, R1.newO nL, Same.refl F1, upd_same, R1.F_none nL, .nil, Nat.zero_le _, run, rfl⟩, ?_⟩
  rintro i m H' ⟨rfl, hle, F', done, ks, Bi, rest, R', e', hD, nF, hr, hkl, hrun, hout⟩
  by_cases hlt : i < ds.length
  · have nb : some L ≠ c.β := R'.H_none n0
    have nL' : H' L ≠ none := by rw [hD]; exact fun z => nomatch z
    refine .inr ⟨w.goes i H' hlt (e'.trans R'.sub), fun H2 => ∃ (F2 : Hp) (done : List D) (ks : List V) (Bi : Bag) (rest : List D), Rel g.T.K c ρ Bi σ H2 F2 ∧ Same F1 F2 ∧ H2 L = some (.lst ks) ∧ F2 L = none ∧ RepAll g.T.K c.β F2 done ks ∧ ks.length ≤ (i + 1) * 1000 ∧
      L2Run (L2Turn (blkG g scope) tg tg1 iter1 kx ifs ifs1 ρb (own.map (·.2)) vs1) (ds.drop (i + 1)) Bi rest B2 ∧ done ++ rest = out, fun H2 h2 => ⟨ds.length - (i + 1), by omega, rfl, hlt, h2⟩, fun v H2 y => ?_⟩
    have Rb : Rel g.T.K ⟨c.β, H', F'⟩ ρb Bi (wipe σ (own.map (·.2))) H' F' := by
      rw [← hρ]
      exact (R'.fgt _).enter
    obtain ⟨d, F2, hd, R2, e2, hrep⟩ := walk_step (c := ⟨c.β, H', F'⟩) w Rb e' hlt y
    have hdrop : ds.drop i = d :: ds.drop (i + 1) := by
      obtain ⟨hl, he⟩ := List.getElem?_eq_some_iff.mp hd
      rw [List.drop_eq_getElem_cons hl, he]
    rw [hdrop] at hrun
    cases hrun with
    | @cons _ _ r1 r2 _ Bb _ hS hrest =>
      obtain ⟨ρ', js, b, Bm, ht, hjs, htt, hb0, hb1⟩ := hS
      refine ⟨ρb, d, ρ', js, ht, _, Bi, F2, R2, hrep, fun σ3 R3 hw => ⟨(hw _ hjs).trans wipe_wipe, ρ', Bi, b, Bm, htt, _, F2, R3, fun H4 F4 R4 e4 => ?_⟩⟩
      cases b with
      | false =>
        obtain ⟨ho, rfl⟩ := hb0 rfl
        refine iteF ?_
        rw [ho] at hout
        exact ⟨F4, done, ks, Bb, r2, R'.leave R4, (e'.trans e2).trans e4, R4.fr L _ nb (fun _ z => (nomatch z)) hD, R4.dj L nL' nF, hr.mono (e2.trans e4), by omega, hrest, hout⟩
      | true =>
        obtain ⟨ds1, Bn, ρ1, hit, hρ1, hrun1, hl1⟩ := hb1 rfl
        refine iteT ⟨ρ', Bm, ds1, Bn, hit, _, F4, R4, fun J2 H5 F5 R5 e5 w5 => ?_⟩
        have e05 : Same F' F5 := (e2.trans e4).trans e5
        -- the inner loop: by its turn
        have nb1 : ∀ (i : Nat) (ct : Ct), ρ1[i]? ≠ some (.o ct) := fun i ct z => by rw [← hρ1] at z; exact noOwn_o z
        have hsh : ρ1.length = (wipe σ3 vs1).length ∧ ∀ (i : Nat) (x : D), ρ1[i]? = some (.d x) → ∃ v, (wipe σ3 vs1)[i]? = some (some v) ∧ Rep g.T.K c.β F5 x v := by
          have z := (R5.fgt vs1)
          refine ⟨by rw [← hρ1]; unfold noOwn; rw [List.length_map]; exact z.len, fun i x h => ?_⟩
          rw [← hρ1] at h
          exact z.dat i x (noOwn_d h)
        refine ⟨fun j m H6 => m = ds1.length - j ∧ j ≤ ds1.length ∧ ∃ (F6 : Hp) (done6 : List D) (ks6 : List V) (B6 : Bag) (rest6 : List D), Rel g.T.K c ρ B6 σ H6 F6 ∧ Same F5 F6 ∧ H6 L = some (.lst ks6) ∧ F6 L = none ∧ RepAll g.T.K c.β F6 done6 ks6 ∧ ks6.length ≤ i * 1000 + j ∧
            LcRun (LcTurn (blkG g scope) tg1 kx ifs1 ρ1 vs1) (ds1.drop j) B6 rest6 Bb ∧ done6 ++ (rest6 ++ r2) = out,
          ⟨_, rfl, Nat.zero_le _, F5, done, ks, Bn, r1, R'.leave R5, Same.refl F5, R5.fr L _ nb (fun _ z => (nomatch z)) hD, R5.dj L nL' nF, hr.mono e05, hkl, hrun1, hout⟩, ?_⟩
        rintro j m H6 ⟨rfl, hj, F6, done6, ks6, B6, rest6, A6, e56, hD6, nF6, hr6, hk6, hrun6, hout6⟩
        by_cases hjl : j < ds1.length
        · refine .inr ⟨w5.goes j H6 hjl (e56.trans A6.sub), fun H7 => ∃ (F7 : Hp) (done7 : List D) (ks7 : List V) (B7 : Bag) (rest7 : List D), Rel g.T.K c ρ B7 σ H7 F7 ∧ Same F5 F7 ∧ H7 L = some (.lst ks7) ∧ F7 L = none ∧ RepAll g.T.K c.β F7 done7 ks7 ∧ ks7.length ≤ i * 1000 + (j + 1) ∧
            LcRun (LcTurn (blkG g scope) tg1 kx ifs1 ρ1 vs1) (ds1.drop (j + 1)) B7 rest7 Bb ∧ done7 ++ (rest7 ++ r2) = out, fun H7 h7 => ⟨ds1.length - (j + 1), by omega, rfl, hjl, h7⟩, fun v1 H7 y1 => ?_⟩
          have nL6 : H6 L ≠ none := by rw [hD6]; exact fun z => nomatch z
          have Bl : Rel g.T.K ⟨c.β, H6, F6⟩ ρ1 B6 (wipe σ3 vs1) H6 F6 :=
            ⟨hsh.1, fun b o _ _ h => h, fun b h => h, A6.tab, Same.refl F6, fun b _ h => h, A6.sub, fun a h => ⟨(A6.bag a h).1, (by show H6 a ≠ none; rw [(A6.bag a h).1]; exact fun z => nomatch z), A6.F_bag h⟩,
              fun i x h => let ⟨v, g1, g2⟩ := hsh.2 i x h; ⟨v, g1, g2.mono e56⟩, fun i ct h => absurd h (nb1 i ct), fun i j ct ct' p h => absurd h (nb1 i ct)⟩
          obtain ⟨d1, F7, hd1, R7, e7, hrep1⟩ := walk_step (c := ⟨c.β, H6, F6⟩) w5 Bl e56 hjl y1
          have hdrop1 : ds1.drop j = d1 :: ds1.drop (j + 1) := by
            obtain ⟨hl, he⟩ := List.getElem?_eq_some_iff.mp hd1
            rw [List.drop_eq_getElem_cons hl, he]
          rw [hdrop1] at hrun6
          cases hrun6 with
          | @keep _ yy _ out6 _ B8 _ hS6 hrest6 =>
            obtain ⟨ρ'', js1, b1, Bm1, ht1, hjs1, htt1, hbt1, hel1⟩ := hS6
            subst hbt1
            refine ⟨ρ1, d1, ρ'', js1, ht1, _, B6, F7, R7, hrep1, fun σ8 R8 hw8 => ⟨(hw8 _ hjs1).trans wipe_wipe, ρ'', B6, true, Bm1, htt1, _, F7, R8, fun H9 F9 R9 e9 => iteT ⟨ρ'', Bm1, yy, B8, hel1, _, F9, R9, fun u Hx Fx Rx ex hu _ => ?_⟩⟩⟩
            have hDx : Hx L = some (.lst ks6) := Rx.fr L _ nb (fun _ z => (nomatch z)) hD6
            have nFx : Fx L = none := Rx.dj L nL6 nF6
            have e6x : Same F6 Fx := (e7.trans e9).trans ex
            refine ⟨ks6, hDx, by omega, ?_⟩
            exact ⟨Fx, done6 ++ [yy], ks6 ++ [u], B8, out6, (A6.leave Rx).wr ⟨_, hDx, rfl⟩ n0 nFx hap, e56.trans e6x, upd_same, nFx, (hr6.mono e6x).append (.cons hu .nil), by rw [List.length_append]; simp; omega, hrest6, by rw [← hout6]; simp⟩
          | @drop _ _ _ _ B8 _ hS6 hrest6 =>
            obtain ⟨ρ'', js1, b1, Bm1, ht1, hjs1, htt1, hbt1, hel1⟩ := hS6
            subst hbt1 hel1
            refine ⟨ρ1, d1, ρ'', js1, ht1, _, B6, F7, R7, hrep1, fun σ8 R8 hw8 => ⟨(hw8 _ hjs1).trans wipe_wipe, ρ'', B6, false, B8, htt1, _, F7, R8, fun H9 F9 R9 e9 => iteF ?_⟩⟩
            exact ⟨F9, done6, ks6, B8, rest6, A6.leave R9, e56.trans (e7.trans e9), R9.fr L _ nb (fun _ z => (nomatch z)) hD6, R9.dj L nL6 nF6, hr6.mono (e7.trans e9), by omega, hrest6, hout6⟩
        · have hje : j = ds1.length := by omega
          subst hje
          rw [List.drop_length] at hrun6
          cases hrun6
          rw [List.nil_append] at hout6
          exact .inl ⟨w5.stops H6 (e56.trans A6.sub), F6, done6, ks6, _, r2, A6, e'.trans (e05.trans e56), hD6, nF6, hr6, by omega, hrest, hout6⟩
  · have hie : i = ds.length := by omega
    subst hie
    rw [List.drop_length] at hrun
    cases hrun
    rw [List.append_nil] at hout
    subst hout
    exact .inl ⟨w.stops H' (e'.trans R'.sub), q (.ref L) H' F' R' (e1.trans e') ⟨L, rfl, ⟨_, hD, ⟨ks, rfl, by omega, hr⟩⟩, n0, nF⟩ fun _ _ i ct p h1 h2 z => hap i ct p h1 h2 (V.ref.inj z).symm⟩
theorem evr_lc2 {out : List D} {vs1 : List Nat} (hi : ItD g tg iter ρ B ds B1) (ok : blkC g.N g.sc scope own = true) (hρ : noOwn (fgt ρ (own.map (·.2))) = ρb) (hvs : ∀ i ∈ vs1, i ∈ own.map (·.2))
    (run : L2Run (L2Turn (blkG g scope) tg tg1 iter1 kx ifs ifs1 ρb (own.map (·.2)) vs1) ds B1 out B2) (hlen : ds.length ≤ 1000)
    (hf : ∀ (env : Env) x, foldedSetIterable iter env x = pure x := by intro _ _; rfl) (hf1 : ∀ (env : Env) x, foldedSetIterable iter1 env x = pure x := by intro _ _; rfl) :
    EvR g (.ListComp kx [⟨tg, iter, ifs, 0⟩, ⟨tg1, iter1, ifs1, 0⟩] scope pos) ρ B (.o (.l out)) B2 := by
  refine ⟨fun X hX => ?_⟩
  obtain ⟨wi, pi, qi⟩ := hi.h X hX
  have okX : BlkOk X.N X.env.scope scope own := by rw [hX.hN, hX.hs]; exact blkOk_by ok
  have ndX : X.N.Nodup := by rw [hX.hN]; exact hX.nd
  exact PE.imp (pe_lc2 hX.calm ndX pi okX hvs (fun s H C cl fp => rdG_ok (hX.blk scope s H C cl fp)) (fun s H C cl fp => rdT_ok (hX.blk scope s H C cl fp)) (fun s H C cl fp => rdI_ok (hX.blk scope s H C cl fp)) (fun s H C cl fp => rdG_ok (hX.blk scope s H C cl fp)) (fun s H C cl fp => rdT_ok (hX.blk scope s H C cl fp)) (fun s H C cl fp => rdE_ok (hX.blk scope s H C cl fp)) (hf X.env) hf1) fun σ H Q h => lc2_read hρ hvs qi run hlen h
end
section
variable {g : G} {ρ : Rho} {B : Bag} {pos pos' : Pos} {n : Str} {E : En}
/-- return x, x an own thing: it is the caller's own -/
theorem ex_retOwn {i : Nat} {ct : Ct} (hN : g.N[i]? = some n) (hv : Vis g.sc n) (hi : ρ[i]? = some (.o ct)) (h : E.rt (.o ct) B) (hd : (n == ("__debug__" : Str)) = false := by decide) (hcd : (n == ("__classdict__" : Str)) = false := by decide) : Ex g (.Return (some (.Name n pos)) pos') ρ B E :=
  ⟨fun X hX => PS.imp (ps_ret (pe_var (X := X) (i := i) (by rw [hX.hN]; exact hN) (by rw [hX.hs]; exact hv) hd hcd)) fun D σ H ⟨c, F, R, q1, q2, _⟩ => by
    obtain ⟨p, h1, h2⟩ := R.own i ct hi
    exact ⟨.ref p, h1, q2 ρ B σ H F (.o ct) (.ref p) R (Same.refl F) ⟨p, rfl, h2⟩ h⟩⟩
end
section
variable {α : Type} {g : G} {ρ ρ1 : Rho} {B : Bag} {tg iter tg1 iter1 elt : Expr} {ifs ifs1 : List Expr} {is vs1 : List Nat}
structure L2Q (g : G) (tg tg1 iter1 elt : Expr) (ifs ifs1 : List Expr) (ρ : Rho) (is vs1 : List Nat) (B : Bag) (d : D) (k : Bool) (out : List D) : Prop where
  ex : ∃ ρ' js, Tg g tg ρ d ρ' js ∧ (∀ i ∈ js, i ∈ is) ∧ TsL g ifs ρ' B k B ∧ (k = true → ∃ ds1 ρ1, ItD g tg1 iter1 ρ' B ds1 B ∧ noOwn (fgt ρ' vs1) = ρ1 ∧ LcRun (LcTurn g tg1 elt ifs1 ρ1 vs1) ds1 B out B ∧ ds1.length ≤ 1000)
theorem L2Q.run {em : α → D} {k : α → Bool} {out : α → List D} : ∀ {xs : List α}, (∀ a ∈ xs, L2Q g tg tg1 iter1 elt ifs ifs1 ρ is vs1 B (em a) (k a) (out a)) → L2Run (L2Turn g tg tg1 iter1 elt ifs ifs1 ρ is vs1) (xs.map em) B ((xs.filter k).flatMap out) B
  | [], _ => .nil
  | a :: xs, h => by
    have ih := L2Q.run (xs := xs) fun b hb => h b (List.mem_cons_of_mem _ hb)
    obtain ⟨ρ', js, h1, h2, h3, h4⟩ := (h a List.mem_cons_self).ex
    rw [List.map_cons]
    cases hk : k a with
    | true =>
      rw [hk] at h3
      obtain ⟨ds1, ρ1, g1, g2, g3, g4⟩ := h4 hk
      rw [List.filter_cons_of_pos hk, List.flatMap_cons]
      exact .cons ⟨ρ', js, true, B, h1, h2, h3, (fun h => nomatch h), fun _ => ⟨ds1, B, ρ1, g1, g2, g3, g4⟩⟩ ih
    | false =>
      rw [hk] at h3
      rw [List.filter_cons_of_neg (by rw [hk]; exact Bool.false_ne_true)]
      exact L2Run.cons (o1 := []) ⟨ρ', js, false, B, h1, h2, h3, fun _ => ⟨rfl, rfl⟩, fun h => nomatch h⟩ ih
end
end PD
namespace PD
open PySem PySem.Spec PyProof.Rows L2 RZ
/-! ### a test that reads own things as data -/
def Sl.frz : Sl → Sl
  | .o ct => .d ct.d
  | s => s
def frz (ρ : Rho) : Rho := ρ.map Sl.frz
theorem frz_get {ρ : Rho} {i : Nat} {s : Sl} (h : (frz ρ)[i]? = some s) : ∃ t, ρ[i]? = some t ∧ s = t.frz := by
  unfold frz at h
  rw [List.getElem?_map] at h
  obtain ⟨t, h1, h2⟩ := Option.map_eq_some_iff.mp h
  exact ⟨t, h1, h2.symm⟩
section
variable {g : G} {ρ : Rho} {B B' : Bag} {e : Expr} {k : Bool}
open Classical in
theorem Rel.borrow {K : KT} {c : C0} {σ : L2.St} {H F : Hp} (R : Rel K c ρ B σ H F) : ∃ F1, Same F F1 ∧ Rel K ⟨c.β, H, F1⟩ (frz ρ) B σ H F1 ∧ (∀ (i : Nat) (ct : Ct) (p : Addr), ρ[i]? = some (.o ct) → σ[i]? = some (some (.ref p)) → F1 p = H p) ∧ ∀ b, F b = F1 b ∨ ∃ (i : Nat) (ct : Ct), ρ[i]? = some (.o ct) ∧ σ[i]? = some (some (.ref b)) := by
  let own : Addr → Prop := fun z => ∃ (i : Nat) (ct : Ct), ρ[i]? = some (.o ct) ∧ σ[i]? = some (some (.ref z))
  have facts : ∀ z, own z → c.H0 z = none ∧ F z = none := fun z ⟨i, ct, h1, h2⟩ => by
    obtain ⟨p, hp, _, h4, h5⟩ := R.own i ct h1
    rw [h2] at hp
    cases hp
    exact ⟨h4, h5⟩
  have e1 : Same F (fun z => if own z then H z else F z) := fun b o h => by
    show (if own b then H b else F b) = some o
    rw [if_neg fun z => by rw [(facts b z).2] at h; cases h]
    exact h
  refine ⟨fun z => if own z then H z else F z, e1, ⟨?_, fun b o _ _ h => h, fun b h => h, fun q hq => ⟨(R.tab q hq).1.mono e1, by
    show (if own q.1 then H q.1 else F q.1) = none
    have no : ¬ own q.1 := fun ⟨i, ct, g1, g2⟩ => by
      obtain ⟨p, hp, ⟨ho, h3, h4⟩, _, _⟩ := R.own i ct g1
      rw [g2] at hp
      cases hp
      exact R.tab.ne hq h3 (CtOk.nt h4).1 rfl
    rw [if_neg no]
    exact (R.tab q hq).2⟩, Same.refl _, fun b _ h => h, fun b o h => ?_, fun a h => ?_, fun i x h => ?_, fun i ct h => ?_, fun i j ct ct' p h => ?_⟩, fun i ct p h1 h2 => if_pos ⟨i, ct, h1, h2⟩, fun b => ?_⟩
  rotate_right
  · by_cases hb : own b
    · exact .inr hb
    · exact .inl (if_neg hb).symm
  · unfold frz
    rw [List.length_map]
    exact R.len
  · have h : (if own b then H b else F b) = some o := h
    split at h
    · exact h
    · exact R.sub b o h
  · refine ⟨(R.bag a h).1, (by show H a ≠ none; rw [(R.bag a h).1]; exact fun z => nomatch z), ?_⟩
    show (if own a then H a else F a) = none
    rw [if_neg fun z => (R.bag a h).2.1 (facts a z).1]
    exact R.F_bag h
  · obtain ⟨t, h1, h2⟩ := frz_get h
    cases t with
    | u => cases h2
    | d y =>
      cases h2
      obtain ⟨v, h3, h4⟩ := R.dat i x h1
      exact ⟨v, h3, h4.mono e1⟩
    | o ct =>
      cases h2
      obtain ⟨p, hp, ⟨ho, h3, h4⟩, _, _⟩ := R.own i ct h1
      refine ⟨.ref p, hp, (h4.mono e1).rep ?_⟩
      show (if own p then H p else F p) = some ho
      rw [if_pos ⟨i, ct, h1, hp⟩]
      exact h3
  · obtain ⟨t, _, h2⟩ := frz_get h
    cases t <;> cases h2
  · obtain ⟨t, _, h2⟩ := frz_get h
    cases t <;> cases h2
open Classical in
theorem Rel.unborrowF {K : KT} {c : C0} {σ : L2.St} {H F F1 F2 H' : Hp} (R : Rel K c ρ B σ H F) (e1 : Same F F1) (R2 : Rel K ⟨c.β, H, F1⟩ (frz ρ) B' σ H' F2) (hF1 : ∀ b q, F1 b = some (LamX.CodeO b q) → F b = F1 b) (e2 : Same F1 F2) (hown : ∀ (i : Nat) (ct : Ct) (p : Addr), ρ[i]? = some (.o ct) → σ[i]? = some (some (.ref p)) → F1 p = H p) :
    ∃ F3, Same F F3 ∧ Rel K c ρ B' σ H' F3 := by
  let code : Addr → Prop := fun b => ∃ q, F2 b = some (LamX.CodeO b q)
  have e3 : Same F (fun b => if code b then F2 b else F b) := fun b o h => by
    show (if code b then F2 b else F b) = some o
    split
    · exact e2 b o (e1 b o h)
    · exact h
  have noc : ∀ {b}, F2 b = none → ¬ code b := fun h ⟨q, z⟩ => by rw [h] at z; cases z
  refine ⟨fun b => if code b then F2 b else F b, e3, R.len, fun b o hb ho h => R2.fr b o hb ho (R.fr b o hb ho h), fun b h => R2.st b (R.st b h), fun q hq => ⟨?_, ?_⟩, R.gr.trans e3, fun b h1 h2 => ?_, fun b o h => ?_, fun a h => ⟨(R2.bag a h).1, (R.bag a h).2⟩, fun i x h => ?_, fun i ct h => ?_, R.sep⟩
  · obtain ⟨ps, h1, h2, h3⟩ := (R2.tab q hq).1
    refine ⟨ps, h1, h2, fun pos cv hc => ?_⟩
    obtain ⟨k, a, b⟩ := h3 pos cv hc
    refine ⟨k, a, ?_⟩
    show (if code k then F2 k else F k) = _
    rw [if_pos ⟨_, b⟩]
    exact b
  · show (if code q.1 then F2 q.1 else F q.1) = none
    rw [if_neg (noc (R2.tab q hq).2)]
    exact (R.tab q hq).2
  · show (if code b then F2 b else F b) = none
    have hF := R.dj b h1 h2
    split
    · rename_i hc
      obtain ⟨q, z⟩ := hc
      cases f1 : F1 b with
      | none => exact R2.dj b (R.st b h1) f1
      | some o =>
        have := e2 b o f1
        rw [z] at this
        cases this
        have := hF1 b q f1
        rw [hF, f1] at this
        cases this
    · exact hF
  · have h : (if code b then F2 b else F b) = some o := h
    split at h
    · exact R2.sub b o h
    · exact R2.sub b o (e2 b o (e1 b o h))
  · obtain ⟨v, h1, h2⟩ := R.dat i x h
    exact ⟨v, h1, h2.mono e3⟩
  · obtain ⟨p, hp, ⟨ho, h3, h4⟩, h5, h6⟩ := R.own i ct h
    refine ⟨p, hp, ⟨ho, R2.fr p ho (R.H_none h5) (CtOk.nt h4).1 h3, h4.mono e3⟩, h5, ?_⟩
    show (if code p then F2 p else F p) = none
    rw [if_neg]
    · exact h6
    · rintro ⟨q, z⟩
      have f1 := hown i ct p h hp
      rw [h3] at f1
      have := e2 p ho f1
      rw [z] at this
      cases this
      exact (CtOk.nt h4).2 _ _ rfl
theorem Rel.borrowF {K : KT} {c : C0} {σ : L2.St} {H F : Hp} (R : Rel K c ρ B σ H F) : ∃ F1, Same F F1 ∧ Rel K ⟨c.β, H, F1⟩ (frz ρ) B σ H F1 ∧ ∀ B' H' F2, Rel K ⟨c.β, H, F1⟩ (frz ρ) B' σ H' F2 → Same F1 F2 → ∃ F3, Same F F3 ∧ Rel K c ρ B' σ H' F3 := by
  obtain ⟨F1, e1, R1, hown, hrest⟩ := R.borrow
  refine ⟨F1, e1, R1, fun B' H' F2 R2 e2 => R.unborrowF e1 R2 (fun b q z => ?_) e2 hown⟩
  rcases hrest b with h | ⟨i, ct, h1, h2⟩
  · exact h
  · obtain ⟨p, hp, ⟨ho, h3, h4⟩, h5, h6⟩ := R.own i ct h1
    rw [h2] at hp
    cases hp
    rw [hown i ct b h1 h2, h3] at z
    cases z
    exact absurd rfl ((CtOk.nt h4).2 _ _)
theorem ts_borrow (h : Ts g e (frz ρ) B k B') : Ts g e ρ B k B' :=
  ⟨fun X hX => PT.imp (h.h X hX) fun σ H Q ⟨c, F, R, q⟩ => by
    obtain ⟨F1, e1, R1, back⟩ := R.borrowF
    refine ⟨_, F1, R1, fun H' F2 R2 e2 => ?_⟩
    obtain ⟨F3, e3, R3⟩ := back _ _ _ R2 e2
    exact q H' F3 R3 e3⟩
end
end PD
namespace PD
open PySem PySem.Spec PyProof.Rows L2 RZ
/-! ### dict(rows), the keys whole numbers that differ -/
def rowOf {α : Type} (k : α → Int) (em : α → D) (r : α) : D := .tup [.int (k r), em r]
section
variable {α : Type} {X : Cx} {pins : List (Addr × Obj)} {σ : L2.St} {H : Hp} {s : Shared} {β : Option Addr} {F : Hp}
structure RowsAt (X : Cx) (β : Option Addr) (F : Hp) (h : Heap) (k : α → Int) (em : α → D) (rs : List α) (Tl : List Addr) (ps : List (Value × Value)) (ws : List V) (kvs : List (Key × Value)) : Prop where
  tl : Tl.length = rs.length
  pl : ps.length = rs.length
  rep : RepAll X.K β F (rs.map em) ws
  at_ : ∀ (j : Nat) (key v : Value), ps[j]? = some (key, v) → ∃ T : Addr, Tl[j]? = some T ∧ PySem.PairAt h T key v
  have_ : PySem.PairsHave (mixKind X.prog X.w) rs.length (PySem.PairRel ps) kvs
  kv : KV ((rs.map fun r => (Sum.inl (k r) : Key)).zip ws) kvs
  keys : kvs.map (·.1) = rs.map fun r => Sum.inl (k r)
theorem rows_at (I : Inv X pins σ H s) (sub : Same F H) (k : α → Int) (em : α → D) : ∀ {rs : List α} {vs : List V}, RepAll X.K β F (rs.map (rowOf k em)) vs → ∃ Tl ps ws kvs, vs = Tl.map V.ref ∧ RowsAt X β F s.heap k em rs Tl ps ws kvs
  | [], vs, h => by
    cases h
    exact ⟨[], [], [], [], rfl, rfl, rfl, .nil, fun j key v h => by simp at h, ⟨rfl, fun i key v h => by simp [PySem.PairRel] at h⟩, .nil, rfl⟩
  | r :: rs, vs, h => by
    rw [List.map_cons] at h
    cases h with
    | cons h1 h2 =>
      obtain ⟨Tl, ps, ws, kvs, e, R⟩ := rows_at I sub k em h2
      subst e
      cases h1 with
      | tup g1 g2 g3 =>
        rename_i T xs
        obtain ⟨v1, v2, rfl, g4, g5⟩ := all2 g3
        cases g4
        obtain ⟨its, rv, ht, _⟩ := I.tuple (Same.seqT sub g1)
        obtain ⟨u1, u2, rfl, r1, r2⟩ : ∃ u1 u2, its = [u1, u2] ∧ RelV (.int (k r)) u1 ∧ RelV v2 u2 := by
          cases rv with
          | cons r1 rv => cases rv with
            | cons r2 rv => cases rv; exact ⟨_, _, rfl, r1, r2⟩
        refine ⟨T :: Tl, (u1, u2) :: ps, v2 :: ws, (Sum.inl (k r), u2) :: kvs, rfl, by simp [R.tl], by simp [R.pl], .cons g5 R.rep, fun j key v hj => ?_, ⟨by simp [R.have_.1], fun i key v hi => ?_⟩, .cons ⟨rfl, r2⟩ R.kv, by simp [R.keys]⟩
        · cases j with
          | zero =>
            have e : (u1, u2) = (key, v) := by simpa using hj
            cases e
            exact ⟨T, rfl, .inl ht⟩
          | succ j => exact R.at_ j key v (by simpa using hj)
        · cases i with
          | zero =>
            have e : (u1, u2) = (key, v) := by simpa [PySem.PairRel] using hi
            cases e
            exact ⟨Sum.inl (k r), rfl, kV_is (k := Sum.inl (k r)) r1⟩
          | succ i => exact R.have_.2 i key v (by simpa [PySem.PairRel] using hi)
theorem cr_dictRows (hc : X.calm = true) (k : α → Int) (em : α → D) (rs : List α) (β : Option Addr) (F : Hp) (nd : (rs.map k).Nodup) :
    CallR X (.type "dict") (fun xs H Q => ∃ (a : Addr) (vs : List V), xs = [.ref a] ∧ SqL X.K H a vs ∧ RepAll X.K β F (rs.map (rowOf k em)) vs ∧ Same F H ∧ ∀ (p : Addr) (ws : List V), H p = none → RepAll X.K β F (rs.map em) ws → ws.length ≤ sizeLine → Q (.ref p) (upd H p (.dK ((rs.map fun r => (Sum.inl (k r) : Key)).zip ws)))) := by
  intro pins s σ H xs us Q I r h
  obtain ⟨a, vs, rfl, hs, hr, hsub, q⟩ := h
  obtain rfl := Vals.ref1 r
  obtain ⟨its, rv, hl, hz⟩ := I.list hs
  obtain ⟨Tl, ps, ws, kvs, e, R⟩ := rows_at I hsub k em hr
  subst e
  have hlen : ws.length = rs.length := by have := R.rep.length; rw [List.length_map] at this; exact this.symm
  have hits : its = Tl.map Value.ref := by
    clear hl hs hr hz q R
    induction Tl generalizing its with
    | nil => cases rv; rfl
    | cons T Tl ih =>
      cases rv with
      | cons r1 rv =>
        rw [List.map_cons, ih _ rv]
        congr 1
  subst hits
  have hz' : rs.length ≤ sizeLine := by rw [List.length_map, R.tl] at hz; exact hz
  refine PySem.call_dict_pairs (knd := mixKind X.prog X.w) (kvs := kvs) (PySem.PairArg.list a (Tl.map Value.ref).toArray (fun j => Tl.getD j 0) ps) (I.ok.hd hc) ⟨hl, ?_, fun j key v hj => ?_⟩ (by rw [R.pl]; exact R.have_) (by rw [R.pl]; exact hz') fun h' tk dd hk => ?_
  · simp [R.tl, R.pl]
  · obtain ⟨T, h1, h2⟩ := R.at_ j key v hj
    have e2 : Tl.getD j 0 = T := by rw [List.getD_eq_getElem?_getD, h1]; rfl
    show (Tl.map Value.ref).toArray[j]? = some (Value.ref (Tl.getD j 0)) ∧ PySem.PairAt s.heap (Tl.getD j 0) key v
    rw [e2]
    exact ⟨by simp [h1], h2⟩
  · have hnd : (kvs.map (·.1)).Nodup := by
      rw [R.keys]
      have : (rs.map fun r => (Sum.inl (k r) : Key)) = (rs.map k).map Sum.inl := by rw [List.map_map]; rfl
      rw [this]
      exact List.pairwise_map.mpr (List.Pairwise.imp (fun h z => h (Sum.inl.inj z)) nd)
    rw [merged_nil_of_nodup kvs hnd] at dd
    have hm : (s.heap.objs.size == sysModules) = false := beq_eq_false_iff_ne.mpr (Nat.ne_of_gt I.big)
    have hzl : ((rs.map fun r => (Sum.inl (k r) : Key)).zip ws).length ≤ sizeLine := by
      rw [List.length_zip, List.length_map]
      omega
    exact ⟨.ref s.heap.objs.size, upd H s.heap.objs.size (.dK ((rs.map fun r => (Sum.inl (k r) : Key)).zip ws)), I.laid (t' := tk) (fun b u e => hk b u (by simp) e) (Nat.le_refl _) (dk_new hzl hm R.kv dd), rfl, q _ ws (I.hok.fresh (Nat.le_refl _)) R.rep (by rw [hlen]; exact hz')⟩
end
/-- the rows of a dict by whole numbers -/
def rowsK {α : Type} (k : α → Int) (em : α → D) (rs : List α) : List (Key × D) := (rs.map fun r => (Sum.inl (k r) : Key)).zip (rs.map em)
section
variable {α : Type} {g : G} {ρ : Rho} {B B1 B2 : Bag} {a b : Expr} {pos : Pos}
theorem k_dictRows (k : α → Int) (em : α → D) (rs : List α) (nd : (rs.map k).Nodup) : CallD g (.type "dict") [.lst (rs.map (rowOf k em))] (.o (.m (rowsK k em rs))) := by
  intro X hX
  refine ⟨fun xs H Q => ∃ (β : Option Addr) (F : Hp) (a : Addr) (vs : List V), xs = [.ref a] ∧ SqL X.K H a vs ∧ RepAll X.K β F (rs.map (rowOf k em)) vs ∧ Same F H ∧ ∀ (p : Addr) (ws : List V), H p = none → RepAll X.K β F (rs.map em) ws → ws.length ≤ sizeLine → Q (.ref p) (upd H p (.dK ((rs.map fun r => (Sum.inl (k r) : Key)).zip ws))), ?_, fun c ρ B σ H F vs Q R hvs q => ?_⟩
  · intro pins s σ H xs us Q I r ⟨β, F, h⟩
    exact cr_dictRows hX.calm k em rs β F nd pins s σ H xs us Q I r h
  · obtain ⟨v, rfl, h1⟩ := all1 hvs
    cases h1 with
    | lst u1 u2 u3 =>
      refine ⟨c.β, F, _, _, rfl, SqL.sub R.sub u1, by rw [hX.hK]; exact u3, R.sub, fun p ws np hw hl => ?_⟩
      rw [hX.hK] at hw
      refine q _ _ F (R.newO np) (Same.refl F) ⟨p, rfl, OwnAt.new' R np ⟨rs.map fun r => Sum.inl (k r), rs.map em, ws, rfl, rfl, ?_, ?_, hw⟩⟩ (R.apart np)
      · have := hw.length
        rw [List.length_map] at this ⊢
        exact this
      · have := hw.length
        rw [List.length_map] at this ⊢
        omega
theorem fst_zip {α β : Type} : ∀ {ks : List α} {ds : List β}, ks.length = ds.length → (ks.zip ds).map Prod.fst = ks
  | [], [], _ => rfl
  | k :: ks, d :: ds, h => by rw [List.zip_cons_cons, List.map_cons, fst_zip (by simpa using h)]
  | [], _ :: _, h => nomatch h
  | _ :: _, [], h => nomatch h
theorem snd_zip {α β : Type} : ∀ {ks : List α} {ds : List β}, ks.length = ds.length → (ks.zip ds).map Prod.snd = ds
  | [], [], _ => rfl
  | k :: ks, d :: ds, h => by rw [List.zip_cons_cons, List.map_cons, snd_zip (by simpa using h)]
  | [], _ :: _, h => nomatch h
  | _ :: _, [], h => nomatch h
theorem rep_rows {K : PySem.W.Frag} {β : Option Addr} {F : Hp} {k : α → Int} {em : α → D} {rs : List α} {v : V} (h : Rep K β F (.dct (rowsK k em rs)) v) : ∃ a ws, v = .ref a ∧ F a = some (.dK ((rs.map fun r => (Sum.inl (k r) : Key)).zip ws)) ∧ RepAll K β F (rs.map em) ws := by
  generalize hd : (D.dct (rowsK k em rs)) = d at h
  cases h with
  | dct h1 h2 h3 h4 h5 h6 =>
    rename_i a kvs ks ds kws vs
    cases hd
    have hl := h6.length
    have e1 : ks = rs.map fun r => Sum.inl (k r) := by
      have z := congrArg (List.map Prod.fst) h3
      unfold rowsK at z
      rw [fst_zip (by rw [List.length_map, List.length_map]), fst_zip (by omega)] at z
      exact z.symm
    have e2 : ds = rs.map em := by
      have z := congrArg (List.map Prod.snd) h3
      unfold rowsK at z
      rw [snd_zip (by rw [List.length_map, List.length_map]), snd_zip (by omega)] at z
      exact z.symm
    subst e1 e2 h4
    exact ⟨a, vs, rfl, h1, h6⟩
  | _ => cases hd
theorem val_rows {K : PySem.W.Frag} {β : Option Addr} {F : Hp} {k : α → Int} {em : α → D} {i : Int} : ∀ {rs : List α} {ws : List V}, RepAll K β F (rs.map em) ws →
    (∃ r ∈ rs, k r = i ∧ ∃ w, valV ((rs.map fun r => (Sum.inl (k r) : Key)).zip ws) (Sum.inl i) = some w ∧ Rep K β F (em r) w) ∨ (i ∉ rs.map k ∧ valV ((rs.map fun r => (Sum.inl (k r) : Key)).zip ws) (Sum.inl i) = none)
  | [], ws, h => .inr ⟨by simp, by cases h; rfl⟩
  | r :: rs, ws, h => by
    rw [List.map_cons] at h
    cases h with
    | cons h1 h2 =>
      rename_i w ws
      by_cases e : k r = i
      · refine .inl ⟨r, List.mem_cons_self, e, w, ?_, h1⟩
        rw [List.map_cons, List.zip_cons_cons, e]
        unfold valV
        rw [List.find?_cons_of_pos (by simp)]
        rfl
      · have ec : valV ((((r :: rs).map fun r => (Sum.inl (k r) : Key))).zip (w :: ws)) (Sum.inl i) = valV ((rs.map fun r => (Sum.inl (k r) : Key)).zip ws) (Sum.inl i) := by
          rw [List.map_cons, List.zip_cons_cons]
          unfold valV
          rw [List.find?_cons_of_neg (by simp [e])]
        rw [ec]
        rcases val_rows (i := i) h2 with ⟨q, hq, e1, e2⟩ | ⟨h3, h4⟩
        · exact .inl ⟨q, List.mem_cons_of_mem _ hq, e1, e2⟩
        · exact .inr ⟨by rw [List.map_cons]; exact fun z => (List.mem_cons.mp z).elim (fun z => e z.symm) h3, h4⟩
theorem op_inDct {X : Cx} (hu : X.A.units + 64 < cLine) : OpR X (compareOp .In) (fun y x H Q => ∃ a o, x = .ref a ∧ DGet H a y o ∧ Q (.bl o.isSome) H) := by
  intro pins s σ H x y v u Q I rx ry h
  obtain ⟨a, o, rfl, g, q⟩ := h
  cases ry
  exact d_in (by omega) I g rx fun s' I' => ⟨.bl _, H, I', rfl, q⟩
theorem c_inRows {k : α → Int} {em : α → D} {rs : List α} {i : Int} : BinD g (compareOp .In) (.int i) (.dct (rowsK k em rs)) (.d (.bl (decide (i ∈ rs.map k)))) := fun X hX => ⟨_, op_inDct hX.room.units, fun c ρ B σ H F v w Q R h1 h2 q => by
  cases h1
  obtain ⟨a, ws, rfl, hF, hr⟩ := rep_rows h2
  refine ⟨a, _, rfl, DGet.k (k := Sum.inl i) (R.sub _ _ hF), ?_⟩
  rcases val_rows (k := k) (i := i) hr with ⟨r, hm, e, w, h3, _⟩ | ⟨h3, h4⟩
  · rw [h3, show (some w).isSome = decide (i ∈ rs.map k) by rw [decide_eq_true (List.mem_map.mpr ⟨r, hm, e⟩)]; rfl]
    exact q _ H F R (Same.refl F) (.bl _) apart_d
  · rw [h4, show (none : Option V).isSome = decide (i ∈ rs.map k) by rw [decide_eq_false h3]; rfl]
    exact q _ H F R (Same.refl F) (.bl _) apart_d⟩
theorem ev_ixRows {k : α → Int} {em : α → D} {rs : List α} {r : α} (nd : (rs.map k).Nodup) (ha : Ev g a ρ B (.dct (rowsK k em rs)) B1) (hb : Ev g b ρ B1 (.int (k r)) B2) (hr : r ∈ rs) (hs : PlainIxE b := by intro _ _; rfl) : Ev g (.Subscript a b pos) ρ B (em r) B2 := by
  refine ⟨fun X hX => PE.imp (pe_dget (by have := hX.room.units; omega) (ha.h X hX) (hb.h X hX) hs) fun σ H Q ⟨c, F, R, q⟩ => two R fun v w H2 F2 R2 e2 h1 h2 => ?_⟩
  cases h2
  obtain ⟨a, ws, rfl, hF, hrep⟩ := rep_rows h1
  rcases val_rows (k := k) (i := k r) hrep with ⟨t, hm, e, w, h3, h4⟩ | ⟨h3, h4⟩
  · have et : t = r := by
      obtain ⟨i, hi, e1⟩ := List.mem_iff_getElem.mp hm
      obtain ⟨j, hj, e2⟩ := List.mem_iff_getElem.mp hr
      have hij : i = j := by
        have hx : (rs.map k)[i]'(by simpa using hi) = (rs.map k)[j]'(by simpa using hj) := by simp [e1, e2, e]
        exact (List.getElem_inj nd).mp hx
      subst hij
      rw [← e1, ← e2]
    subst et
    exact ⟨a, w, rfl, (by rw [← h3]; exact DGet.k (k := Sum.inl (k t)) (R2.sub _ _ hF)), q w H2 F2 R2 e2 h4 apart_d⟩
  · exact absurd (List.mem_map.mpr ⟨r, hr, rfl⟩) h3
end
end PD
namespace PD
open PySem PySem.Spec PyProof.Rows L2 RZ
open PySem.Sem (wp)
open PySem.AutoSeq1 (wpAny_loadPart')
/-! ### enumerate over a tuple -/
theorem enumT_new (l : Addr) (items : Array Value) (n : Nat) (dct : Option Addr) (sl : Array (Option Value)) :
    Meets (Builtin.«enumerate.__new__» ⟨[.type "enumerate", .ref l], []⟩) (fun _ R s => s.heap.get? l = some { cls := .type "tuple", dict := dct, data := .seq items n, slots := sl } ∧
      R (.ok (.ret (.ref (s.heap.push { cls := .type "tuple_iterator", data := .fields #[.ref l, .int 0 0] }).objs.size)))
        { s with heap := (s.heap.push { cls := .type "tuple_iterator", data := .fields #[.ref l, .int 0 0] }).push { cls := .type "enumerate", data := .fields #[.none, .bool false, .ref s.heap.objs.size, rawInt 0, .none, .none] } }) :=
  .of_wp fun prog w A R s h => by
    obtain ⟨hp, gg, d, tk, os⟩ := s; obtain ⟨hl, h⟩ := h
    have hsub := sub_enumerate
    have hT : Heap.IsTuple (Shared.heap ⟨hp, gg, d, tk, os⟩) l items := ⟨_, hl, rfl, n, rfl⟩
    wp_walk using wpAny_loadPart' hl
    refine wpAny_stack_any fun st => wpAny_pure ?_
    split
    · rename_i c _ _ _ _ _
      cases (c == Value.type "enumerate")
      · wp_walk using wpAny_loadPart' hl, wpAny_pyIter_tuple hT
        exact ⟨_, rfl, h⟩
      · wp_walk using wpAny_loadPart' hl, wpAny_pyIter_tuple hT
        exact ⟨_, rfl, h⟩
    · wp_walk using wpAny_loadPart' hl, wpAny_pyIter_tuple hT
      exact ⟨_, rfl, h⟩
theorem enumT_call {prog : Program} {w : World} {A : Around} {E : Value → Shared → Prop} {s : Shared} {l : Addr} {items : Array Value} {Q : Value → Shared → Prop} (hL : s.heap.IsTuple l items)
    (h : ∀ h', IsEnum h' (s.heap.objs.size + 1) s.heap.objs.size 0 .none → h'.IsTupleIter s.heap.objs.size l 0 → h'.objs.size = s.heap.objs.size + 2 →
      (∀ b o, s.heap.get? b = some o → h'.get? b = some o) → Q (.ref (s.heap.objs.size + 1)) { s with heap := h' }) :
    wpAny (model prog w) A (call (.type "enumerate") [.ref l]) Q E s := by
  obtain ⟨⟨c, dct, dt, sl⟩, hl, hc, n, hd⟩ := hL
  replace hc : c = .type "tuple" := hc
  replace hd : dt = .seq items n := hd
  subst hc hd
  refine callType_new F.called_enumerate (by decide) (F.typeCall_enumerate_1 _) (F.newCall_enumerate_1 _) (fun obj => F.args_object_init_2 obj _) F.entry_enumerate_new
    (enumT_new l items n dct sl) ⟨hl, ?_⟩
  have hz : (s.heap.push { cls := .type "tuple_iterator", data := .fields #[.ref l, .int 0 0] }).objs.size = s.heap.objs.size + 1 := Heap.size_push ..
  show _ ∧ _
  rw [hz]
  have he : IsEnum ((s.heap.push { cls := .type "tuple_iterator", data := .fields #[.ref l, .int 0 0] }).push
      { cls := .type "enumerate", data := .fields #[.none, .bool false, .ref s.heap.objs.size, rawInt 0, .none, .none] }) (s.heap.objs.size + 1) s.heap.objs.size 0 .none := by
    have := Heap.get?_push_size (s.heap.push { cls := .type "tuple_iterator", data := .fields #[.ref l, .int 0 0] })
      (o := { cls := .type "enumerate", data := .fields #[.none, .bool false, .ref s.heap.objs.size, rawInt 0, .none, .none] }) rfl
    rw [hz] at this; exact this
  refine ⟨⟨_, he, rfl⟩, h _ he ⟨_, Heap.get?_push_of_some _ (Heap.get?_push_size _ rfl), rfl, rfl⟩ (by rw [Heap.size_push, hz]) fun b o x => Heap.get?_push_of_some _ (Heap.get?_push_of_some _ x)⟩
def IteT (K : PySem.W.Frag) (a : Addr) : It :=
  ⟨fun i H => ∃ (xs : List V) (x : V), SqT K H a xs ∧ xs[i]? = some x, fun i H v H' => ∃ T x, v = .ref T ∧ H T = none ∧ H' = upd H T (.tup [.int (i : Nat), x]) ∧ ∀ xs, SqT K H a xs → xs[i]? = some x, fun i H => ∃ xs : List V, SqT K H a xs ∧ xs.length = i⟩
theorem enumT_turn {P : Program} {w : World} {K : PySem.W.Frag} {elts : List Expr} {kk : Nat} {tpos : Pos} (a e it : Addr) (ea : e ≠ a) (ia : a ≠ it) :
    Turn P w K (.Tuple elts kk tpos) (IteT K a) [e, it] e (fun i h => (∃ old, IsEnum h e it ((i : Nat) : Int) old) ∧ h.IsTupleIter it a i ∧ e ≠ it) where
  mem := by simp
  obj := fun i h st b hb => by
    obtain ⟨⟨old, he⟩, ⟨o, ho, hc, hd⟩, _⟩ := st
    have e' : b = e ∨ b = it := by simpa using hb
    rcases e' with z | z
    · rw [z]; exact ⟨_, he, fun v q => nomatch q⟩
    · rw [z]; exact ⟨o, ho, fun v q => by rw [hd] at q; cases q⟩
  keep := fun i h h' st k => let ⟨⟨old, he⟩, hi, hne⟩ := st; ⟨⟨old, k e (by simp) _ he⟩, hi.at fun o q => k it (by simp) o q, hne⟩
  item := by
    intro X hP hw hK hc i pins s σ H E I hf st hg
    subst hP hw hK
    obtain ⟨⟨old, he⟩, hit, hne⟩ := st
    obtain ⟨xs, x, hq, hx⟩ := hg
    obtain ⟨its, rv, p, hz⟩ := I.tuple hq
    obtain ⟨u, hu, ru⟩ := rv.get hx
    have hel : e < s.heap.objs.size := Heap.lt_size he
    have hil : it < s.heap.objs.size := by obtain ⟨_, q, _⟩ := hit; exact Heap.lt_size q
    have hlt : i < its.toArray.size := by
      have := (List.getElem?_eq_some_iff.mp hu).1
      simpa using this
    refine wpAny_pyNext_enum_itemD (Draws.tuple (A := X.A.in1) (I.ok.hd hc) it a ia its.toArray) he ⟨hit, p⟩ hlt hne (by simp [hne, ea]) fun x' h' tk hPx ho hst' hT hsz hk => ?_
    have hxu : x' = u := by
      have h1 : its.toArray[i]? = some u := by simpa using hu
      rw [h1] at hPx
      exact (Option.some.inj hPx).symm
    subst hxu
    refine ⟨_, rfl, wpAny_letOwnedTupleGo_enum (s := { s with heap := h', toks := tk + 1 }) ho fun h'' he' sb => ?_⟩
    have hT2 : h''.get? s.heap.objs.size = some { cls := .type "tuple", data := .seq #[.int i tk, x'] } := (sb.2 _ (Nat.ne_of_gt hel)).trans hT
    have new : ObjOk X.prog X.w (upd H s.heap.objs.size (.tup [.int (i : Nat), x])) h'' s.heap.objs.size (.tup [.int (i : Nat), x]) :=
      ⟨by show 2 ≤ sizeLine; decide, [.int i tk, x'], .cons ⟨_, rfl⟩ (.cons ru .nil), ⟨_, hT2, rfl, _, rfl⟩⟩
    have I1 : Inv X pins σ (upd H s.heap.objs.size (.tup [.int (i : Nat), x])) { s with heap := h'', toks := tk + 1 } :=
      I.turnedNew (ch := [e, it]) (fun b ob hb q => (sb.2 b (fun z => hb (by simp [z]))).trans (hk b ob (fun z => hb (by simp [z])) (fun z => hb (by simp [z])) q)) hf (Nat.le_refl _) new
    refine ⟨.ref s.heap.objs.size, _, I1, rfl, ⟨_, x, rfl, I.hok.fresh (Nat.le_refl _), rfl, fun ys hy => by rw [I.tuple_inj hy hq]; exact hx⟩, ⟨⟨x', ?_⟩, hst'.1.at fun o q => (sb.2 it (Ne.symm hne)).trans q, hne⟩, fun b hb => ?_⟩
    · have e1 : ((i + 1 : Nat) : Int) = (i : Int) + 1 := by omega
      rw [e1]; exact he'
    · have hb' : b < s.heap.objs.size := by
        have e' : b = e ∨ b = it := by simpa using hb
        rcases e' with z | z
        · rw [z]; exact hel
        · rw [z]; exact hil
      rw [upd_ne (Nat.ne_of_lt hb')]
      exact (hf b hb).1
  done := by
    intro X hP hw hK hc i pins s σ H E I hf st hg
    subst hP hw hK
    obtain ⟨⟨old, he⟩, hit, hne⟩ := st
    obtain ⟨xs, hq, hx⟩ := hg
    obtain ⟨its, rv, p, hz⟩ := I.tuple hq
    obtain ⟨f0, f1, f2, f3, f4, f5⟩ := hf it (by simp)
    have hl := rv.length
    have hsz : i = its.toArray.size := by simp; omega
    subst hsz
    exact wpAny_pyNext_enum_endD (Draws.tuple (A := X.A.in1) (I.ok.hd hc) it a ia its.toArray) he ⟨hit, p⟩ fun h' eb => ⟨rfl, I.turned (t' := s.toks) (fun b o hb q => eb b o hb q) f0 f1 f3 f4 f5⟩
  self := fun A i s Q E st h => let ⟨⟨_, he⟩, _⟩ := st; wpAny_pyIter_enum he h
def iEnumT (K : PySem.W.Frag) (ta : TA) : TI := fun σ H R => ta σ H fun vs H1 => ∃ a xs, vs = [.ref a] ∧ SqT K H1 a xs ∧ R (IteT K a) H1
theorem pi_enumT {X : Cx} {e : Expr} {ta : TA} {p pos tpos : Pos} {elts : List Expr} {kk : Nat} (hg : Gl X "enumerate") (hm : X.mg "enumerate" = none) (ha : PA X [e] ta) (hs : starEach [e] X.env = [(false, eval e X.env)] := by rfl) :
    PI X (.Tuple elts kk tpos) (.Call (.Name "enumerate" p) [e] [] pos) (iEnumT X.K ta) := by
  refine ⟨fun pins s σ H R I h => ?_⟩
  refine Call_ (ld_blt I hg hm boot_enumerate (PyProof.Rows.callWith_type1 (thn (ha.run pos pins s σ H _ I h) fun us s1 ⟨vs, H1, I1, r1, q1⟩ => ?_) hs rfl))
  obtain ⟨a, xs, ex, hq, q⟩ := q1
  subst ex
  cases r1 with
  | cons r rr =>
    cases rr
    cases r
    obtain ⟨its, rv, p', hz⟩ := I1.tuple hq
    have hal : a < s1.heap.objs.size := by obtain ⟨_, z, _⟩ := p'; exact Heap.lt_size z
    refine enumT_call p' fun h' he hit hsz hk => wpAny_pyIter_enum he ?_
    have I2 : Inv X pins σ H1 { s1 with heap := h' } := I1.kept (t' := s1.toks) hk
    refine ⟨s1.heap.objs.size + 1, [s1.heap.objs.size + 1, s1.heap.objs.size], _, _, H1, rfl, I2, enumT_turn a (s1.heap.objs.size + 1) s1.heap.objs.size (Nat.ne_of_gt (Nat.lt_succ_of_lt hal)) (Nat.ne_of_lt hal), ⟨⟨.none, he⟩, hit, Nat.succ_ne_self _⟩, fun b hb => ?_, q⟩
    have e' : b = s1.heap.objs.size + 1 ∨ b = s1.heap.objs.size := by simpa using hb
    have hle : s1.heap.objs.size ≤ b := by
      rcases e' with z | z
      · rw [z]; exact Nat.le_add_right _ _
      · rw [z]; exact Nat.le_refl _
    exact I1.fpOk hle (I1.hok.fresh hle)
theorem walkD_enumT {K : PySem.W.Frag} {c : C0} {ds : List D} {F1 : Hp} {a : Addr} {vs : List V} (h : SqT K F1 a vs) (hr : RepAll K c.β F1 ds vs) : WalkD K c.β (IteT K a) (enD ds) F1 :=
  ⟨fun i H hi e => by
    have hl := hr.length
    rw [enD_length] at hi
    exact ⟨vs, vs[i]'(by omega), Same.seqT e h, by simp [show i < vs.length by omega]⟩, fun H e => ⟨vs, Same.seqT e h, by rw [enD_length, hr.length]⟩, fun i H x H' hi e y => by
    obtain ⟨T, x1, rfl, nT, rfl, f1⟩ := y
    obtain ⟨d1, hd1, r1⟩ := hr.get' (f1 vs (Same.seqT e h))
    exact ⟨_, enD_get hd1, .inr ⟨T, _, _, rfl, nT, rfl, len2, rfl, .cons (.int _) (.cons r1 .nil)⟩⟩⟩
theorem it_enumT {g : G} {ρ : Rho} {B B1 : Bag} {a : Expr} {elts : List Expr} {kk : Nat} {p pos tpos : Pos} {xs : List D} (hg : Glb g "enumerate") (hm : g.T.mg "enumerate" = none) (ha : Ev g a ρ B (.tup xs) B1) (hs : ∀ env : Env, starEach [a] env = [(false, eval a env)] := by intro _; rfl) : ItD g (.Tuple elts kk tpos) (.Call (.Name "enumerate" p) [a] [] pos) ρ B (enD xs) B1 := by
  refine ⟨fun X hX => ?_⟩
  refine ⟨_, pi_enumT (hg.at hX) (by rw [hX.hm]; exact hm) ((evs_cons ha evs_nil hs).h X hX) (hs X.env), fun c σ H F Re R q => ⟨c, F, R, fun vs H' F' R' e' h => ?_⟩⟩
  obtain ⟨v, rfl, h3⟩ := all1 h
  cases h3 with
  | tup u1 u2 u3 => exact ⟨_, _, rfl, by rw [hX.hK]; exact Same.seqT R'.sub u1, q _ H' F' R' e' (by rw [hX.hK]; exact walkD_enumT u1 u3)⟩
end PD
namespace PD
open PySem PySem.Spec PyProof.Rows L2
theorem c_notB {g : G} {s t : Bool} : BinD g (compareOp .IsNot) (.bl s) (.bl t) (.d (.bl (!decide (s = t)))) := binD_v (fun X _ => op_notBl (X := X)) _ _ (.bl _) inv_bl inv_bl (fun _ _ _ => .bl _) fun X H Q _ q => ⟨_, _, rfl, rfl, q⟩
theorem c_isB {g : G} {s t : Bool} : BinD g (compareOp .Is) (.bl s) (.bl t) (.d (.bl (decide (s = t)))) := binD_v (fun X _ => op_isBl (X := X)) _ _ (.bl _) inv_bl inv_bl (fun _ _ _ => .bl _) fun X H Q _ q => ⟨_, _, rfl, rfl, q⟩
end PD
namespace PD
open PySem PySem.Spec PyProof.Rows L2 RZ
open PySem.Sem (wp)
/-! ### own things: read as data in an expression, written by an index, a dict updated -/
def foldK (kvs more : List (Key × V)) : List (Key × V) := more.foldl (fun acc kv => putK acc kv.1 kv.2) kvs
theorem KV.merge : ∀ {more : List (Key × V)} {ws : List (Key × Value)} {kvs : List (Key × V)} {vs : List (Key × Value)}, KV more ws → KV kvs vs → KV (foldK kvs more) (merged vs ws)
  | _, _, _, _, .nil, r => r
  | p :: ms, q :: ns, kvs, vs, .cons h t, r => by
    have h1 : p.1 = q.1 := h.1
    have h2 : RelV p.2 q.2 := h.2
    have r2 : KV (putK kvs p.1 p.2) (stored vs q.1 q.2) := by
      rw [← h1]
      exact KV.put r p.1 h2
    have t2 : KV ms ns := t
    have z := KV.merge t2 r2
    exact z
theorem foldK_len : ∀ (more kvs : List (Key × V)), (foldK kvs more).length ≤ kvs.length + more.length
  | [], _ => by unfold foldK; simp
  | kv :: more, kvs => by
    have h := foldK_len more (putK kvs kv.1 kv.2)
    have h2 := length_putK kvs kv.1 kv.2
    show (foldK (putK kvs kv.1 kv.2) more).length ≤ _
    rw [List.length_cons]
    omega
theorem foldK_keys : ∀ (js ks : List Int), foldK (keysV ks) (keysV js) = keysV (js.foldl insK ks)
  | [], ks => rfl
  | j :: js, ks => by
    have h := foldK_keys js (insK ks j)
    show foldK (putK (keysV ks) (Sum.inl j) (.bl true)) (keysV js) = _
    rw [putK_keys]
    exact h
def rUpdK : V → List V → Hp → VK → Prop := fun x vs H Q => ∃ (a b : Addr) (kvs more : List (Key × V)), x = .ref a ∧ vs = [.ref b] ∧ a ≠ b ∧ H a = some (.dK kvs) ∧ H b = some (.dK more) ∧ kvs.length + more.length ≤ sizeLine ∧ Q .non (upd H a (.dK (foldK kvs more)))
theorem mt_update {X : Cx} : MtR X "dict.update" rUpdK := by
  intro pins s σ H x vs v us Q I rx rv h
  obtain ⟨a, b, kvs, more, rfl, rfl, hab, ha, hb, hz, q⟩ := h
  cases rx
  obtain ⟨u, rfl, ru⟩ := rv.one
  cases ru
  obtain ⟨z1, d1, vs1, rel1, dd1⟩ := dk_of I.hok ha
  obtain ⟨z2, d2, vs2, rel2, dd2⟩ := dk_of I.hok hb
  have l1 := KV.length rel1
  have l2 := KV.length rel2
  have hl : (foldK kvs more).length ≤ sizeLine := Nat.le_trans (foldK_len more kvs) hz
  refine call_meetsIn PySem.F.slot_dict_update dd1.typeIs PySem.F.entry_dict_update (PySem.F.args_dict_update_2 _ _) (meets_dict_update (mixKind X.prog X.w) a b hab d2) ⟨vs1, vs2, dd1, dd2, by omega, fun h' dd' _ hs => ?_⟩
  have he : ∃ q, h'.get? a = some q := let ⟨q, _, _, hq, _⟩ := dd'; ⟨q, hq⟩
  exact ⟨.non, _, d_write I (by rw [ha]; exact True.intro) hs he (dk_new hl d1 (KV.merge rel2 rel1) dd'), rfl, q⟩
section
variable {g : G} {ρ : Rho} {B B' B1 B2 B3 : Bag} {e : Expr} {k : Bool} {pos p apos cpos epos : Pos} {n : Str} {E : En}
/-- x.update(e), x an own dict of marks -/
theorem ex_update {i : Nat} {ks js : List Int} (hN : g.N[i]? = some n) (hv : Vis g.sc n) (hi : ρ[i]? = some (.o (.m (keysD ks)))) (he : Ev g e ρ B (.dct (keysD js)) B1) (h : E.nx (ρ.set i (.o (.m (keysD (js.foldl insK ks))))) B1) (hl : ks.length + js.length ≤ 1000000)
    (hd : (n == ("__debug__" : Str)) = false := by decide) (hcd : (n == ("__classdict__" : Str)) = false := by decide)
    (hbase : ∀ env : Env, attributeBase (.Name n p) "update" env (eval (.Name n p) env) = eval (.Name n p) env := by intro _; rfl)
    (hfew : ∀ env : Env, ((backTo cpos (starEach (e :: []) env)).all (fun x => !x.1) && (backToKw cpos (keywordEach [] env)).all (fun x => x.1.isSome)
      && decide ((e :: []).length + ([] : List Keyword).length + (if ([] : List Keyword).isEmpty then 0 else 1) < 30)) = true := by intro _; rfl)
    (hline : (apos.endLine == cpos.line) = true := by rfl) (hs : ∀ env : Env, starEach (e :: []) env = (false, eval e env) :: starEach [] env := by intro _; rfl) (hplain : ∀ env : Env, (backTo cpos (starEach [] env)).any (·.1) = false := by intro _; rfl)
    (hs1 : ∀ env : Env, swapsWith (.Call (.Attribute (.Name n p) "update" apos) [e] [] cpos) none epos.line env = pure false := by intro _; rfl) : Ex g (.Expr (.Call (.Attribute (.Name n p) "update" apos) [e] [] cpos) epos) ρ B E := by
  refine ⟨fun X hX => ?_⟩
  have pv : PE X (.Name n p) (tVar i) := pe_var (by rw [hX.hN]; exact hN) (by rw [hX.hs]; exact hv) hd hcd
  have pa : PA X [e] (tCons (tEv g.T.K ρ B (.d (.dct (keysD js))) B1) tNil) := pa_cons (he.h X hX) pa_nil (hs X.env)
  refine PS.imp (ps_expr (pe_bm PySem.F.plainAttrs_dict PySem.F.slot_dict_update PySem.F.type_dict_update mt_update pv pa (hbase X.env) (hfew X.env) hline (hs X.env) (hplain X.env)) (hs1 X.env)) fun D σ H ⟨c, F, R, q1, _⟩ => ?_
  obtain ⟨q, h1, ⟨ho, h2, h3⟩, h4, h5⟩ := R.own i _ hi
  obtain ⟨rfl, hz⟩ := ct_keys_inv h3
  have hz' : (sizeLine : Nat) = 16777216 := sizeLine_eq
  refine ⟨.ref q, h1, ?_, c, F, R, fun v H1 F1 R1 e1 hv _ => ?_⟩
  · exact .inr (.inr (.inl ⟨rfl, .inl ⟨_, h2⟩⟩))
  obtain ⟨q', g1, ⟨ho', g2, g3⟩, g4, g5⟩ := R1.own i _ hi
  rw [h1] at g1
  cases g1
  obtain ⟨rfl, gz⟩ := ct_keys_inv g3
  obtain ⟨b, rfl, hb, bz⟩ := rep_keys_inv hv
  have hab : q ≠ b := fun z => by rw [z, hb] at g5; cases g5
  have hlen : (js.foldl insK ks).length ≤ sizeLine := by have := insK_le js ks; omega
  refine ⟨q, b, keysV ks, keysV js, rfl, rfl, hab, g2, R1.sub _ _ hb, by rw [keysL, keysL]; omega, ?_⟩
  rw [foldK_keys]
  exact q1 _ B1 σ _ F1 (R1.wrOwn (ct' := .m (keysD (js.foldl insK ks))) hi h1 (ct_keys hlen)) e1 h
theorem evr_dict0 : EvR g (.Dict [] [] pos) ρ B (.o (.m (keysD []))) B :=
  ⟨fun X hX => PE.imp pe_dnewK fun σ H Q ⟨c, F, R, q⟩ => fun p np => q _ _ F (R.newO np) (Same.refl F) ⟨p, rfl, OwnAt.new' R np (ct_keys (ks := []) (Nat.zero_le _))⟩ (R.apart np)⟩
theorem op_notInDct {X : Cx} (hu : X.A.units + 64 < cLine) : OpR X (compareOp .NotIn) (fun y x H Q => ∃ a o, x = .ref a ∧ DGet H a y o ∧ Q (.bl (!o.isSome)) H) := by
  intro pins s σ H x y v u Q I rx ry h
  obtain ⟨a, o, rfl, g, q⟩ := h
  cases ry
  exact d_notIn (by omega) I g rx fun s' I' => ⟨.bl _, H, I', rfl, q⟩
theorem valV_keys (ks : List Int) (k : Int) : (valV (keysV ks) (Sum.inl k)).isSome = decide (k ∈ ks) := by
  rw [← keysV_any, valV_any]
theorem c_notInKeys {ks : List Int} {i : Int} : BinD g (compareOp .NotIn) (.int i) (.dct (keysD ks)) (.d (.bl (!decide (i ∈ ks)))) := fun X hX => ⟨_, op_notInDct hX.room.units, fun c ρ B σ H F v w Q R h1 h2 q => by
  cases h1
  obtain ⟨a, rfl, hF, hz⟩ := rep_keys_inv h2
  refine ⟨a, _, rfl, DGet.k (k := Sum.inl i) (R.sub _ _ hF), ?_⟩
  rw [valV_keys]
  exact q _ H F R (Same.refl F) (.bl _) apart_d⟩
/-- an own thing read for a number -/
theorem ev_borrowI {x : Int} (h : Ev g e (frz ρ) B (.int x) B') : Ev g e ρ B (.int x) B' :=
  ⟨fun X hX => PE.imp (h.h X hX) fun σ H Q ⟨c, F, R, q⟩ => by
    obtain ⟨F1, e1, R1, back⟩ := R.borrowF
    refine ⟨_, F1, R1, fun v H' F2 R2 e2 hv _ => ?_⟩
    obtain ⟨F3, e3, R3⟩ := back _ _ _ R2 e2
    refine q v H' F3 R3 e3 ?_ apart_d
    have hv' : v = .int x := inv_int _ _ _ _ hv
    rw [hv']
    exact .int x⟩
theorem ev_borrowB {x : Bool} (h : Ev g e (frz ρ) B (.bl x) B') : Ev g e ρ B (.bl x) B' :=
  ⟨fun X hX => PE.imp (h.h X hX) fun σ H Q ⟨c, F, R, q⟩ => by
    obtain ⟨F1, e1, R1, back⟩ := R.borrowF
    refine ⟨_, F1, R1, fun v H' F2 R2 e2 hv _ => ?_⟩
    obtain ⟨F3, e3, R3⟩ := back _ _ _ R2 e2
    refine q v H' F3 R3 e3 ?_ apart_d
    have hv' : v = .bl x := inv_bl _ _ _ _ hv
    rw [hv']
    exact .bl x⟩
/-- x[k] = e, x an own list -/
theorem ex_setIx {ix : Expr} {i kk : Nat} {ds : List D} {y : D} {ps po : Pos} (hN : g.N[i]? = some n) (hv : Vis g.sc n) (hi : ρ[i]? = some (.o (.l ds))) (he : Ev g e ρ B y B1) (hk : Ev g ix ρ B1 (nD kk) B2) (hlt : kk < ds.length) (h : E.nx (ρ.set i (.o (.l (ds.set kk y)))) B2)
    (hd : (n == ("__debug__" : Str)) = false := by decide) (hcd : (n == ("__classdict__" : Str)) = false := by decide)
    (ha : ∀ (env : Env) (v : Value), assign (.Subscript (.Name n po) ix ps) env v = (do
      let ov ← holding [v] (eval (.Name n po) env)
      let iv ← holding [v, ov] (eval ix env)
      standAt ps
      holding [v, ov, iv] (setItem ov iv v)
      release [v, ov, iv] []) := by intro _ _; rfl)
    (hs : ∀ env : Env, swapsWithSole [.Subscript (.Name n po) ix ps] e pos.line env = pure false := by intro _; rfl) (hw : ∀ env : Env, swappedStores [.Subscript (.Name n po) ix ps] e env = pure none := by intro _; rfl)
    (h1 : ∀ env : Env, (assignEach [.Subscript (.Name n po) ix ps] env).map (·.2) = [assign (.Subscript (.Name n po) ix ps) env] := by intro _; rfl) : Ex g (.Assign [.Subscript (.Name n po) ix ps] e pos) ρ B E := by
  refine ⟨fun X hX => ?_⟩
  have pv : PE X (.Name n po) (tVar i) := pe_var (by rw [hX.hN]; exact hN) (by rw [hX.hs]; exact hv) hd hcd
  refine PS.imp (ps_asg (he.h X hX) (pg_sub pv (hk.h X hX) set_list (ha X.env)) (hs X.env) (hw X.env) (h1 X.env)) fun D σ H ⟨c, F, R, q1, _⟩ => ⟨c, F, R, fun v1 H1 F1 R1 e1 hv _ => ?_⟩
  obtain ⟨q, g1, ⟨ho, g2, vs, rfl, gz, gr⟩, g4, g5⟩ := R1.own i _ hi
  refine ⟨.ref q, g1, c, F1, R1, fun v3 H3 F3 R3 e3 hv3 _ => ?_⟩
  cases hv3
  obtain ⟨q', k1, ⟨ho', k2, vs', rfl, kz, kr⟩, k4, k5⟩ := R3.own i _ hi
  rw [g1] at k1
  cases k1
  have hlen := kr.length
  refine ⟨q, vs', (kk : Int), kk, rfl, rfl, k2, ?_, ?_⟩
  · unfold ixN
    rw [if_pos (by omega), if_pos (by omega), Int.toNat_natCast]
  · exact q1 _ B2 σ _ F3 (R3.wrOwn (ct' := .l (ds.set kk y)) hi g1 ⟨_, rfl, by rw [List.length_set]; exact kz, kr.set (Rep.mono e3 hv) kk⟩) (e1.trans e3) h
/-- a, b = x, y: own things too -/
theorem ex_parR {a b : Expr} {r1 r2 : Res} {i j : Nat} {n2 : Str} {px py pt : Pos} {kt k2 pt2} (s1 : St1 g i n) (s2 : St1 g j n2) (hij : i ≠ j) (l1 : g.sc.names.lookup n = some .local) (l2 : g.sc.names.lookup n2 = some .local) (ha : EvR g a ρ B r1 B1) (hb : EvR g b (noOwn ρ) B1 r2 B2) (h : E.nx ((ρ.set i r1.sl).set j r2.sl) B2)
    (hw : ∀ env : Env, env.scope = g.sc → swappedStores [.Tuple [.Name n px, .Name n2 py] kt pt] (.Tuple [a, b] k2 pt2) env = pure (some [n, n2]))
    (hs : ∀ env : Env, swapsWithSole [.Tuple [.Name n px, .Name n2 py] kt pt] (.Tuple [a, b] k2 pt2) pos.line env = pure false := by intro _; rfl)
    (e1 : ∀ env : Env, starEach [a, b] env = (false, eval a env) :: starEach [b] env := by intro _; rfl) (e2 : ∀ env : Env, starEach [b] env = (false, eval b env) :: starEach [] env := by intro _; rfl) : Ex g (.Assign [.Tuple [.Name n px, .Name n2 py] kt pt] (.Tuple [a, b] k2 pt2) pos) ρ B E :=
  ⟨fun X hX => PS.imp (ps_par (X := X) hX.calm (by rw [hX.hN]; exact hX.nd) (by rw [hX.hN]; exact s1.ix) (by rw [hX.hN]; exact s2.ix) hij (by rw [hX.hs]; exact l1) (by rw [hX.hs]; exact l2) (pa_cons (ha.h X hX) (pa_cons (hb.h X hX) pa_nil (e2 X.env)) (e1 X.env)) (hw X.env hX.hs) (hs X.env)) fun D σ H ⟨c, F, R, q1, _⟩ =>
    ⟨c, F, R, fun v1 H1 F1 R1 f1 ok1 ap1 => ⟨⟨c.β, H1, F1⟩, F1, R1.enter, fun v2 H2 F2 R2 f2 ok2 ap2 => by
      have R3 : Rel g.T.K c ρ B2 σ H2 F2 := R1.leave R2
      have ok1' : ResOk g.T.K c H2 F2 r1 v1 := by
        cases r1 with
        | d x => exact Rep.mono f2 ok1
        | o ct =>
          obtain ⟨p, hv, ⟨ho, o1, o2⟩, o3, o4⟩ := ok1
          exact ⟨p, hv, ⟨ho, R2.fr p ho (R1.H_none o3) (CtOk.nt o2).1 o1, o2.mono f2⟩, o3, R2.dj p (by show H1 p ≠ none; rw [o1]; exact fun z => nomatch z) o4⟩
      have ok2' : ResOk g.T.K c H2 F2 r2 v2 := by
        cases r2 with
        | d x => exact ok2
        | o ct =>
          obtain ⟨p, hv, ⟨ho, o1, o2⟩, o3, o4⟩ := ok2
          exact ⟨p, hv, ⟨ho, o1, o2⟩, R1.H0_none o3, o4⟩
      have ap2' : Apart (ρ.set i r1.sl) (σ.set i (some v1)) r2 v2 := by
        intro ct2 he i' ct' p' h1 h2 hv2
        subst he
        obtain ⟨p, hv, ⟨ho, o1, o2⟩, o3, o4⟩ := ok2
        have o3' : H1 p = none := o3
        rw [hv] at hv2
        cases hv2
        by_cases hi : i' = i
        · subst hi
          have hlt : i' < ρ.length := by
            by_cases hl : i' < ρ.length
            · exact hl
            · rw [List.getElem?_eq_none (by rw [List.length_set]; omega)] at h1
              cases h1
          rw [List.getElem?_set_self hlt] at h1
          rw [List.getElem?_set_self (by rw [← R1.len]; exact hlt)] at h2
          cases h2
          cases r1 with
          | d x => cases h1
          | o ct =>
            obtain ⟨p1, hv1, ⟨ho1, g1, _⟩, _, _⟩ := ok1
            cases hv1
            rw [o3'] at g1
            cases g1
        · rw [List.getElem?_set_ne (fun z => hi z.symm)] at h1
          rw [List.getElem?_set_ne (fun z => hi z.symm)] at h2
          obtain ⟨q, hq, ⟨ho1, g1, _⟩, _, _⟩ := R1.own i' ct' h1
          rw [h2] at hq
          cases hq
          rw [o3'] at g1
          cases g1
      exact ⟨v1, v2, rfl, q1 _ B2 _ H2 F2 ((R3.set ok1' ap1 i).set ok2' ap2' j) (f1.trans f2) h⟩⟩⟩⟩
end
end PD
namespace PD
open PySem PySem.Spec PyProof.Rows L2 RZ
theorem b_mulW {g : G} {i j : Int} (h : CMulW i j) : BinD g (binaryOp .Mult) (.int i) (.int j) (.d (.int (i * j))) := binD_v (fun X _ => op_mulW (X := X)) _ _ (.int (i * j)) inv_int inv_int (fun _ _ _ => .int _) fun X H Q _ q => ⟨i, j, rfl, rfl, h, q⟩
end PD
namespace PD
open PySem PySem.Spec PyProof.Rows L2 RZ

/-! ### refusals -/
inductive Err where
  | folk | top | log | sale | who | next
deriving DecidableEq
def Err.word : Err → Str
  | .folk => "NoFolk"
  | .top => "NoTop"
  | .log => "NoLog"
  | .sale => "NoSale"
  | .who => "NoWho"
  | .next => "NoNext"
structure ErOk (T : Top) (er : Err → Addr) : Prop where
  mg : ∀ k : Err, T.mg k.word = some (.ref (er k))
  kp : ∀ k, PySem.W.keepIn T.K.fr (.ref (er k)) = true
  ex : ∀ k, PySem.W.excIn T.K.fr (er k) [.type "ValueError", .type "Exception", .type "BaseException", .type "object"] "ValueError.__new__" = true
  su : ∀ k, PySem.W.subIn T.K.fr (.ref (er k)) (.type "BaseException") = some true
  ty : ∀ k, PySem.W.typeIn T.K.fr (.ref (er k)) = some (.type "type")
/-- a def's promise to refuse -/
abbrev RCon := List D → Err → Prop
def spX (K : KT) (er : Err → Addr) (R : RCon) : Sp := fun vs H _ E => ∃ (β : Option Addr) (F : Hp) (ds : List D) (B : Bag) (k : Err), R ds k ∧ RepAll K β F ds vs ∧ Same F H ∧ TabF K H F ∧ (∀ a, β = some a → H a = some (bagH B) ∧ F a = none) ∧
  ∀ H' F', (∀ b o, some b ≠ β → (∀ ps, o ≠ .tbl ps) → H b = some o → H' b = some o) → (∀ b, H b ≠ none → H' b ≠ none) → TabF K H' F' → Same F F' → (∀ b, H b ≠ none → F b = none → F' b = none) → Same F' H' → (∀ a, β = some a → H' a = some (bagH B)) → E (.ref (er k)) none H'
structure HasFnX (T : Top) (er : Err → Addr) (j : Nat) (x : Str) (R : RCon) : Prop where
  ex : ∃ (f : Addr) (fd : FuncData) (ps : List Str), T.mg x = some (.ref f) ∧ PySem.W.keepIn T.K.fr (.ref f) = true ∧ Binds T.K.fr fd ps [] ∧ FnOk T.P T.w T.K.fr T.mg T.base (L2N.CX T.P T.w) j f fd ps (spX T.K er R)
/-- the exception flies: what is wanted of it -/
def tX (K : KT) (ρ : Rho) (B : Bag) (cls : Value) (B' : Bag) (W : WX) (σ : L2.St) (H : Hp) : Prop := ∃ c F, Rel K c ρ B σ H F ∧ ∀ ρ' σ' H' F', Rel K c ρ' B' σ' H' F' → Same F F' → W cls none σ' H'
structure ExX (g : G) (st : Stmt) (ρ : Rho) (B : Bag) (cls : Value) (B' : Bag) : Prop where
  h : ∀ X W, At g X → L2N.Takes X W → PS X st (fun _ σ H => tX g.T.K ρ B cls B' W σ H)
structure ExsX (g : G) (sts : List Stmt) (ρ : Rho) (B : Bag) (cls : Value) (B' : Bag) : Prop where
  h : ∀ X W, At g X → L2N.Takes X W → PSs X sts (fun _ σ H => tX g.T.K ρ B cls B' W σ H)
/-- an expression that raises -/
structure EvX (g : G) (e : Expr) (ρ : Rho) (B : Bag) (cls : Value) (B' : Bag) : Prop where
  h : ∀ X W, At g X → L2N.Takes X W → PE X e (fun σ H _ => tX g.T.K ρ B cls B' W σ H)
section
variable {g : G} {ρ : Rho} {B B1 B2 B3 : Bag} {a b e : Expr} {pos p : Pos} {es : List Expr} {ds : List D} {n : Str} {st : Stmt} {sts : List Stmt} {cls : Value} {er : Err → Addr}
theorem PSs.neverX {X : Cx} {W : WX} (h : False) {t : TS} : PSs X sts t := h.elim
theorem tX.mono {K : KT} {W : WX} {σ : L2.St} {H : Hp} {ρ : Rho} {B B' : Bag} {c : C0} {F : Hp} (R : Rel K c ρ B σ H F) (q : ∀ ρ' σ' H' F', Rel K c ρ' B' σ' H' F' → Same F F' → W cls none σ' H') : tX K ρ B cls B' W σ H := ⟨c, F, R, q⟩
theorem exsx_raise (h : ExX g st ρ B cls B1) : ExsX g (st :: sts) ρ B cls B1 := by
  refine ⟨fun X W hX tk => ?_⟩
  have z : PSs X sts (fun _ _ _ => False) := ⟨fun _ _ _ _ _ _ z => z.elim⟩
  refine PSs.imp (pss_cons (h.h X W hX tk) z) fun D σ H q => q
theorem exsx_cons (h1 : Ex g st ρ B { nx := fun ρ' B' => ExsX g sts ρ' B' cls B1, rt := fun _ _ => False }) : ExsX g (st :: sts) ρ B cls B1 := by
  refine ⟨fun X W hX tk => ?_⟩
  refine PSs.imp (pss_cons (h1.h X hX) (u := fun D σ H => ∃ ρ' B', ExsX g sts ρ' B' cls B1 ∧ tX g.T.K ρ' B' cls B1 W σ H) ⟨fun pins s σ H D I ⟨ρ', B', he, q⟩ => (he.h X W hX tk).run pins s σ H D I q⟩) fun D σ H ⟨c, F, R, q⟩ => ?_
  exact ⟨c, F, R, fun ρ' B' σ' H' F' R' e' p => ⟨ρ', B', p, c, F', R', fun ρ2 σ2 H2 F2 R2 e2 => q ρ2 σ2 H2 F2 R2 (e'.trans e2)⟩, fun _ _ _ _ _ _ _ _ _ _ z => z.elim, fun _ _ _ _ _ _ _ z => z.elim, fun _ _ _ _ _ _ _ z => z.elim⟩
theorem exx_if {k : Bool} {as bs : List Stmt} (hc : Ts g e ρ B k B1) (ha : k = true → ExsX g as ρ B1 cls B2) (hb : k = false → ExsX g bs ρ B1 cls B2) : ExX g (.If e as bs pos) ρ B cls B2 := by
  refine ⟨fun X W hX tk => ?_⟩
  have go : ∀ σ H, tX g.T.K ρ B cls B2 W σ H → ∃ c F, Rel g.T.K c ρ B σ H F ∧ ∀ H' F', Rel g.T.K c ρ B1 σ H' F' → Same F F' → tX g.T.K ρ B1 cls B2 W σ H' := fun σ H ⟨c, F, R, q⟩ =>
    ⟨c, F, R, fun H' F' R' e' => ⟨c, F', R', fun ρ2 σ2 H2 F2 R2 e2 => q ρ2 σ2 H2 F2 R2 (e'.trans e2)⟩⟩
  cases k with
  | true => exact PS.imp (ps_if (hc.h X hX) ((ha rfl).h X W hX tk) pss_never) fun D σ H h => let ⟨c, F, R, q⟩ := go σ H h; ⟨c, F, R, fun H' F' R' e' => iteT (q H' F' R' e')⟩
  | false => exact PS.imp (ps_if (hc.h X hX) pss_never ((hb rfl).h X W hX tk)) fun D σ H h => let ⟨c, F, R, q⟩ := go σ H h; ⟨c, F, R, fun H' F' R' e' => iteF (q H' F' R' e')⟩
/-- raise X('..') -/
theorem exx_raise {k : Err} {m : Str} {j : Nat} {p2 p3 : Pos} (eo : ErOk g.T er) (hg : Glb g k.word) (hn : n = k.word) (hdb : (k.word == ("__debug__" : Str)) = false) : ExX g (.Raise (some (.Call (.Name n p) [.Constant (.str m) j p2] [] p3)) none pos) ρ B (.ref (er k)) B := by
  subst hn
  refine ⟨fun X W hX tk => ?_⟩
  refine PS.imp (L2N.ps_raise hX.calm tk (L2N.pmk_own PySem.F.excBase_ValueError (by rw [hX.hK]; exact eo.ex k) (by rw [hX.hm]; exact eo.mg k) (by rw [hX.hK]; exact eo.kp k) (raises_own (by rw [hX.hK]; exact eo.su k) (by rw [hX.hK]; exact eo.ty k)) (hg.at hX) hdb)) fun D σ H ⟨c, F, R, q⟩ => q ρ σ H F R (Same.refl F)
theorem evx_call {j : Nat} {k : Err} {R : RCon} (hF : HasFnX g.T er j n R) (hj : j ≤ g.k) (hg : Glb g n) (ha : Evs g (e :: es) ρ B ds B1) (hR : R ds k) (hdb : (n == ("__debug__" : Str)) = false := by decide)
    (he : ∀ env : Env, starEach (e :: es) env = (false, eval e env) :: starEach es env := by intro _; rfl) (hpl : ∀ env : Env, (backTo pos (starEach es env)).any (·.1) = false := by intro _; rfl) : EvX g (.Call (.Name n p) (e :: es) [] pos) ρ B (.ref (er k)) B1 := by
  refine ⟨fun X W hX tk => ?_⟩
  obtain ⟨f, fd, ps, hm, hk, hb, F⟩ := hF.ex
  have F' : FnOk X.prog X.w X.K X.mg X.base (L2N.CX X.prog X.w) j f fd ps (spX g.T.K er R) := by
    rw [hX.hP, hX.hw, hX.hK, hX.hm, hX.hb]; exact F
  refine PE.imp (pe_callS F' (hX.room.mono hj) (hg.at hX) (by rw [hX.hm]; exact hm) (by rw [hX.hK]; exact hk) (by rw [hX.hK]; exact hb) (fun σ => L2N.passAt tk σ) (ha.h X hX) hdb (he X.env) (hpl X.env)) fun σ H Q ⟨c, F, Re, q⟩ => ⟨c, F, Re, fun vs H1 F1 R1 e1 h1 => ?_⟩
  refine ⟨c.β, F1, ds, B1, k, hR, h1, R1.sub, R1.tab, fun a ha => ⟨(R1.bag a ha).1, R1.F_bag ha⟩, fun H' F' fr st tab e dj sub bg => ?_⟩
  exact q ρ σ H' F' (rel_call R1 fr st tab e dj sub bg) (e1.trans e)
theorem exx_expr (h : EvX g e ρ B cls B1) (hs : ∀ env : Env, swapsWith e none pos.line env = pure false := by intro _; rfl) : ExX g (.Expr e pos) ρ B cls B1 :=
  ⟨fun X W hX tk => PS.imp (ps_expr (h.h X W hX tk) (hs X.env)) fun D σ H q => q⟩
theorem exx_ret (h : EvX g e ρ B cls B1) : ExX g (.Return (some e) pos) ρ B cls B1 :=
  ⟨fun X W hX tk => PS.imp (ps_ret (h.h X W hX tk)) fun D σ H q => q⟩
end
theorem fnx_ok {T : Top} {er : Err → Addr} {k : Nat} {x qual : Str} {st : Stmt} {f : Addr} {fd : FuncData} {N ps : List Str} {R : RCon} (F : Fun T.K x qual st f fd) (S : FnScope N ps (defScope st)) (hm : T.mg x = some (.ref f)) (hb : Binds T.K fd ps [])
    (len : ∀ ds k, R ds k → ds.length = ps.length)
    (body : ∀ ds k' B, R ds k' → ExsX (fnG T N st k) (defBody st) (startR N ds) B (.ref (er k')) B) : HasFnX T er (k + 1) x R := by
  obtain ⟨oc, od, kV, doc, pm, an, cdv, ct, osl, hfd, lk, hcd⟩ := F.ex
  subst hfd
  refine ⟨f, _, ps, hm, F.kp, hb, fn_of lk hcd S (fun vs H Q E h => ?_) fun A outer s H vs Q E hr h => ?_⟩
  · obtain ⟨β, Fz, ds, B, r, hR, ha, _⟩ := h
    rw [← ha.length]
    exact len ds r hR
  · obtain ⟨β, Fz, ds, B, r, hR, ha, hsub, htab, hbag, q⟩ := h
    have hl := ha.length
    have hx : At (fnG T N st k) (cxOf (L2N.CX T.P T.w) T.P T.w T.K T.mg T.base N qual (defScope st) f cdv A outer s H E) :=
      ⟨rfl, rfl, rfl, rfl, rfl, rfl, rfl, S.nd, rfl, hr, fun _ _ => rfl, passes_of rfl, fun _ h => (nomatch h)⟩
    have tk : L2N.Takes (cxOf (L2N.CX T.P T.w) T.P T.w T.K T.mg T.base N qual (defScope st) f cdv A outer s H E) (fun cls d _ H => E cls d H) := L2N.takes_of rfl rfl rfl rfl
    refine ⟨_, (body ds r B hR).h _ _ hx tk, ⟨β, H, Fz⟩, Fz, ?_, ?_⟩
    · refine ⟨?_, fun b o _ _ h => h, fun b h => h, htab, Same.refl Fz, fun b _ h => h, hsub, fun a h => ⟨(hbag a h).1, (by show H a ≠ none; rw [(hbag a h).1]; exact fun z => nomatch z), (hbag a h).2⟩, fun i d h => ?_, fun i ct h => ?_, fun i j ct ct' p h => ?_⟩
      · unfold startR L2.start
        rw [List.length_append, List.length_append, List.length_map, List.length_map, List.length_replicate, List.length_replicate, hl]
      · rcases startR_get h with z | ⟨d', z, hd⟩
        · cases z
        · cases z
          obtain ⟨v, hv, hrep⟩ := ha.get hd
          refine ⟨v, ?_, hrep⟩
          unfold L2.start
          rw [List.getElem?_append_left (by rw [List.length_map]; exact (List.getElem?_eq_some_iff.mp hv).1), List.getElem?_map, hv]
          rfl
      · rcases startR_get h with z | ⟨d', z, _⟩ <;> cases z
      · rcases startR_get h with z | ⟨d', z, _⟩ <;> cases z
    · intro ρ' σ' H' F' R' e'
      exact q H' F' R'.fr R'.st R'.tab e' (fun b h1 h2 => R'.dj b h1 h2) R'.sub (fun a h => (R'.bag a h).1)
end PD
namespace PD
open PySem PySem.Spec PyProof.Rows L2 RZ

/-! ### a lambda called -/
/-- no parameter, no name of its own -/
structure LamB (L : LamI) (ns : List Str) : Prop where
  kind : L.scope.kind = .function
  co : L.scope.isCoroutine = false
  gen : L.scope.isGenerator = false
  own : ∀ y ∈ L.scope.names, y.2 ≠ .local ∧ y.2 ≠ .cell
  free : ∀ y ∈ L.scope.names, y.2 = .free → y.1 ∈ ns
  nd : ns.Nodup
  bind : ∀ (q : Str) (cl : List (Str × Addr)) (pm cv ctv : Value), bindArgs (PySem.W.kla_fn "<lambda>" q L.params L.body L.scope cl pm cv ctv) ⟨[], []⟩ = pure []
/-- all but the cells -/
def rmv (cl : List (Str × Addr)) (H : Hp) : Hp := fun b => if b ∈ cl.map (·.2) then none else H b
/-- the cells as they were -/
def plus (cl : List (Str × Addr)) (H H' : Hp) : Hp := fun b => if b ∈ cl.map (·.2) then H b else H' b
theorem rmv_in {cl : List (Str × Addr)} {H : Hp} {b : Addr} (h : b ∈ cl.map (·.2)) : rmv cl H b = none := if_pos h
theorem rmv_out {cl : List (Str × Addr)} {H : Hp} {b : Addr} (h : b ∉ cl.map (·.2)) : rmv cl H b = H b := if_neg h
theorem rmv_none {cl : List (Str × Addr)} {H : Hp} {b : Addr} (h : H b = none) : rmv cl H b = none := by
  unfold rmv
  split
  · rfl
  · exact h
theorem rmv_some {cl : List (Str × Addr)} {H : Hp} {b : Addr} {o : HO} (h : rmv cl H b = some o) : H b = some o ∧ b ∉ cl.map (·.2) := by
  unfold rmv at h
  split at h
  · cases h
  · rename_i n
    exact ⟨h, n⟩
theorem plus_in {cl : List (Str × Addr)} {H H' : Hp} {b : Addr} (h : b ∈ cl.map (·.2)) : plus cl H H' b = H b := if_pos h
theorem plus_out {cl : List (Str × Addr)} {H H' : Hp} {b : Addr} (h : b ∉ cl.map (·.2)) : plus cl H H' b = H' b := if_neg h
/-- the cells stand -/
def CellsIn (cl : List (Str × Addr)) (H : Hp) : Prop := ∀ b ∈ cl.map (·.2), ∃ v, H b = some (CellO b v)
theorem CellO.ne_tup {c : Addr} {v : V} {xs : List V} : CellO c v ≠ .tup xs := fun z => by unfold CellO at z; cases z
theorem CellO.ne_own {c : Addr} {v : V} {a : Addr} : CellO c v ≠ .own a := fun z => by unfold CellO at z; cases z
theorem CellO.ne_frz {c : Addr} {v : V} {o : Obj} {u : HO} : CellO c v ≠ .frz o u := fun z => by unfold CellO at z; cases z
theorem CellO.ne_tbl {c : Addr} {v : V} {ps : Array Value} : CellO c v ≠ .tbl ps := fun z => by unfold CellO at z; cases z
section
variable {P : Program} {w : World} {cl : List (Str × Addr)} {H H' : Hp} {h B : Heap}
theorem cell_of {c : Addr} {v : V} (ok : HOk P w H h) (e : H c = some (CellO c v)) : ∃ u, h.IsCell c (some u) ∧ RelV v u := (ok c _ e).1
theorem hok_rmv (ci : CellsIn cl H) (ok : HOk P w H h) : HOk P w (rmv cl H) h := fun a o e => by
  obtain ⟨e1, _⟩ := rmv_some e
  have out : ∀ {b : Addr} {o : HO}, H b = some o → (∀ v, CellO b v ≠ o) → rmv cl H b = some o := fun {b o} q n => by
    rw [rmv_out fun z => ?_]
    · exact q
    · obtain ⟨v, hv⟩ := ci b z
      rw [q] at hv
      exact n v (Option.some.inj hv).symm
  exact (ok a o e1).stay (fun _ _ _ q => q) (fun b q => out q fun v => CellO.ne_own) fun b xs q => out q fun v => CellO.ne_tup
theorem hok_plus (ci : CellsIn cl H) (ok : HOk P w H' B) (kc : ∀ b ∈ cl.map (·.2), H' b = none) (cells : ∀ c v, c ∈ cl.map (·.2) → H c = some (CellO c v) → ∃ u, B.IsCell c (some u) ∧ RelV v u) : HOk P w (plus cl H H') B := fun a o e => by
  by_cases ha : a ∈ cl.map (·.2)
  · rw [plus_in ha] at e
    obtain ⟨v, hv⟩ := ci a ha
    rw [hv] at e
    cases e
    obtain ⟨u, hu, r⟩ := cells a v ha hv
    obtain ⟨ob, ho, hd⟩ := id hu
    exact ⟨⟨u, hu, r⟩, ⟨ob, ho⟩, fun h1 h2 ⟨u2, ⟨o2, e1, e2⟩, r2⟩ st => ⟨u2, ⟨o2, st _ e1, e2⟩, r2⟩⟩
  · rw [plus_out ha] at e
    have out : ∀ {b : Addr} {o : HO}, H' b = some o → plus cl H H' b = some o := fun {b o} q => by
      rw [plus_out fun z => by rw [kc b z] at q; cases q]
      exact q
    exact (ok a o e).stay (fun _ _ _ q => q) (fun b q => out q) fun b xs q => out q
/-- the exception that left the lambda, told with the cells -/
theorem cx_plus {outer : List Env} {s s' : Shared} {E : XK} {e : Value} (ci : CellsIn cl H) (ok : HOk P w H s.heap) (nfr : ∀ b ∈ cl.map (·.2), b ∉ frs outer)
    (c : L2N.CX P w outer (rmv cl H) s (fun cls d Hb => (∀ b ∈ cl.map (·.2), Hb b = none) → E cls d (plus cl H Hb)) e s') : L2N.CX P w outer H s E e s' := by
  obtain ⟨a, B, H', cls, d, he, fl, hk, ub, na, os, bare, hE⟩ := c
  have cellsK : ∀ b ∈ cl.map (·.2), ∃ ob, s.heap.get? b = some ob ∧ B.get? b = some ob := fun b hb => by
    obtain ⟨v, hv⟩ := ci b hb
    obtain ⟨u, ⟨ob, ho, _⟩, _⟩ := cell_of ok hv
    exact ⟨ob, ho, ub.keep b ob ho (rmv_in hb) (nfr b hb)⟩
  have kc : ∀ b ∈ cl.map (·.2), H' b = none := fun b hb => by
    obtain ⟨ob, ho, _⟩ := cellsK b hb
    exact ub.free b ob ho (rmv_in hb)
  have out : ∀ {b : Addr} {o : HO}, H b = some o → (∀ v, CellO b v ≠ o) → rmv cl H b = some o ∧ b ∉ cl.map (·.2) := fun {b o} q n => by
    have nb : b ∉ cl.map (·.2) := fun z => by
      obtain ⟨v, hv⟩ := ci b z
      rw [q] at hv
      exact n v (Option.some.inj hv).symm
    exact ⟨by rw [rmv_out nb]; exact q, nb⟩
  refine ⟨a, B, plus cl H H', cls, d, he, fl, hok_plus ci hk kc fun c v hc hv => ?_, ⟨fun b o q n hb => ub.keep b o q (rmv_none n) hb, ub.slot, fun b o q n => ?_, ub.there, fun b xs q => ?_, fun b o xs q => ?_, fun b ps q => ?_⟩, ?_, os, bare, hE kc⟩
  · obtain ⟨u, ⟨ob, ho, hd⟩, r⟩ := cell_of ok hv
    obtain ⟨ob', ho', hB⟩ := cellsK c hc
    rw [ho] at ho'
    cases ho'
    exact ⟨u, ⟨ob, hB, hd⟩, r⟩
  · have nb : b ∉ cl.map (·.2) := fun z => by
      obtain ⟨v, hv⟩ := ci b z
      rw [n] at hv
      cases hv
    rw [plus_out nb]
    exact ub.free b o q (rmv_none n)
  · obtain ⟨q1, nb⟩ := out q fun v => CellO.ne_tup
    rw [plus_out nb]
    exact ub.tups b xs q1
  · obtain ⟨q1, nb⟩ := out q fun v => CellO.ne_frz
    rw [plus_out nb]
    exact ub.frzs b o xs q1
  · obtain ⟨q1, nb⟩ := out q fun v => CellO.ne_tbl
    rw [plus_out nb]
    exact ub.tbls b ps q1
  · have nb : a ∉ cl.map (·.2) := fun z => by
      obtain ⟨ob, _, hB⟩ := cellsK a z
      have := fl.2.1
      rw [hB] at this
      cases this
    rw [plus_out nb]
    exact na
end
/-- the context of the lambda's body -/
def lamX (T : Top) (L : LamI) (f c' : Addr) (cl : List (Str × Addr)) (A : Around) (outer : List Env) (s : Shared) (H : Hp) (E : XK) : Cx where
  prog := T.P
  w := T.w
  K := T.K.fr
  mg := T.mg
  base := T.base
  A := A.deeper (PySem.W.envX L.qual L.scope s.heap.objs.size f (.ref c') cl)
  N := cl.map (·.1)
  s_0 := s
  H_0 := H
  env := PySem.W.envX L.qual L.scope s.heap.objs.size f (.ref c') cl
  outer := outer
  stack := PySem.W.envX L.qual L.scope s.heap.objs.size f (.ref c') cl :: outer
  ex := []
  fn := fun _ => false
  calm := true
  pn := []
  xe := fun e s' => wpAny (model T.P T.w) (A.deeper (PySem.W.envX L.qual L.scope s.heap.objs.size f (.ref c') cl)) (leaving (PySem.W.envX L.qual L.scope s.heap.objs.size f (.ref c') cl) e) (fun _ s'' => L2N.CX T.P T.w outer H s E e s'') (fun e' s'' => L2N.CX T.P T.w outer H s E e' s'') s'
theorem lookup_nd : ∀ {cl : List (Str × Addr)} {i : Nat} {n : Str} {c : Addr}, (cl.map (·.1)).Nodup → cl[i]? = some (n, c) → cl.lookup n = some c
  | [], _, _, _, _, h => by cases h
  | (m, d) :: cl, 0, n, c, _, h => by
    cases h
    simp [List.lookup]
  | (m, d) :: cl, i + 1, n, c, nd, h => by
    obtain ⟨h1, h2⟩ := List.nodup_cons.mp (show (m :: cl.map (·.1)).Nodup from nd)
    have hm : (n, c) ∈ cl := List.mem_of_getElem? (by simpa using h)
    have hne : (n == m) = false := by
      rw [beq_eq_false_iff_ne]
      intro z
      subst z
      exact h1 (List.mem_map.mpr ⟨(n, c), hm, rfl⟩)
    rw [List.lookup_cons, hne]
    exact lookup_nd h2 (by simpa using h)
theorem lam_start {T : Top} {L : LamI} {f c' : Addr} {cl : List (Str × Addr)} {vs : List V} {A : Around} {outer : List Env} {s : Shared} {H : Hp} {E : XK} {h₁ : Heap} {tk : Nat} (LB : LamB L (cl.map (·.1))) (e0 : Env0 T.P T.w T.K.fr T.mg T.base A outer s H) (hd : A.handled = none) (hlen : cl.length = vs.length)
    (inj : ∀ x y c, cl.lookup x = some c → cl.lookup y = some c → x = y) (cells : ∀ (i : Nat) (c : Addr) (v : V), (cl.map (·.2))[i]? = some c → vs[i]? = some v → H c = some (CellO c v))
    (hns : h₁.Ns s.heap.objs.size fun y => ([] : List (Str × Value)).reverse.lookup y) (kp : ∀ b o, s.heap.get? b = some o → h₁.get? b = some o) :
    Inv (lamX T L f c' cl A outer s (rmv cl H) E) [] (vs.map some) (rmv cl H) { s with heap := h₁, toks := tk } := by
  have vof : ∀ (i : Nat) (c : Addr), (cl.map (·.2))[i]? = some c → ∃ v, vs[i]? = some v := fun i c h => by
    have := (List.getElem?_eq_some_iff.mp h).1
    rw [List.length_map] at this
    exact ⟨_, List.getElem?_eq_getElem (by omega)⟩
  have ci : CellsIn cl H := fun b hb => by
    obtain ⟨i, hi⟩ := List.getElem?_of_mem hb
    obtain ⟨v, hv⟩ := vof i b hi
    exact ⟨v, cells i b v hi hv⟩
  have memL : ∀ {x c}, cl.lookup x = some c → c ∈ cl.map (·.2) := fun {x c} h => List.mem_map.mpr ⟨(x, c), PySem.mem_of_lookup h, rfl⟩
  have cellK : ∀ {c : Addr} {u : Option Value}, s.heap.IsCell c u → h₁.IsCell c u := fun {c u} ⟨o, ho, hd⟩ => ⟨o, kp _ _ ho, hd⟩
  have noA : ∀ b : Addr, b ∉ (lamX T L f c' cl A outer s (rmv cl H) E).ex := fun b z => absurd (show b ∈ ([] : List Addr) from z) (by simp)
  refine ⟨⟨e0.mod, LB.kind, rfl, rfl, Nat.le_refl _, inj, fun y hy => ?_, fun y c z _ => ?_, fun _ => hd, Around.frames_deeper e0.frames, .inr ⟨rfl, rfl⟩, fun b z => absurd z (noA b), fun b o e => ⟨(e0.bs b o e).1, rmv_none (e0.bs b o e).2⟩, e0.bsz, fun b _ _ => noA b,
      fun b z => absurd z (noA b), e0.funs, fun b hb => rmv_none (e0.frf b hb)⟩,
    rfl, e0.bare, Un.kept kp, ⟨_, hns, fun i y v e1 e2 e3 => ?_⟩, fun y c e => ?_, rmv_none (e0.hok.fresh (Nat.le_refl _)), fun y c e => rmv_in (memL e), fun q hq => absurd (show q ∈ ([] : List (Addr × Obj)) ++ [] from hq) (by simp), (hok_rmv ci e0.hok).kept kp, by show (vs.map some).length = (cl.map (·.1)).length; rw [List.length_map, List.length_map, hlen]⟩
  · have hy : L.scope.names.lookup y = some .cell ∨ L.scope.names.lookup y = some .free := hy
    rcases hy with hy | hy
    · exact absurd rfl (LB.own _ (PySem.mem_of_lookup hy)).2
    · have := LB.free _ (PySem.mem_of_lookup hy) rfl
      obtain ⟨i, hi⟩ := List.getElem?_of_mem this
      rw [List.getElem?_map] at hi
      obtain ⟨⟨n, c⟩, h1, h2⟩ := Option.map_eq_some_iff.mp hi
      cases h2
      exact ⟨c, lookup_nd LB.nd h1⟩
  · have z : false = true := z
    cases z
  · have e1 : (cl.map (·.1))[i]? = some y := e1
    have e2 : (vs.map some)[i]? = some (some v) := e2
    rw [List.getElem?_map] at e1 e2
    obtain ⟨⟨n, c⟩, h1, h2⟩ := Option.map_eq_some_iff.mp e1
    cases h2
    obtain ⟨v', h3, h4⟩ := Option.map_eq_some_iff.mp e2
    cases h4
    obtain ⟨u, hu, r⟩ := cell_of e0.hok (cells i c v (by rw [List.getElem?_map, h1]; rfl) h3)
    have kf : L.scope.names.lookup n = some .free := by
      have e3 : Vis L.scope n := e3
      rcases e3 with k | k | k
      · exact absurd rfl (LB.own _ (PySem.mem_of_lookup k)).1
      · exact absurd rfl (LB.own _ (PySem.mem_of_lookup k)).2
      · exact k
    exact ⟨u, r, .inr ⟨.inr kf, c, lookup_nd LB.nd h1, cellK hu⟩⟩
  · obtain ⟨v, hv⟩ := ci c (memL e)
    obtain ⟨u, hu, _⟩ := cell_of e0.hok hv
    exact ⟨_, cellK hu⟩
end PD
namespace PD
open PySem PySem.Spec PyProof.Rows L2 RZ

/-! ### plain data in a smaller heap -/
section
variable {K : PySem.W.Frag} {β β' : Option Addr} {F F' : Hp}
mutual
theorem Rep.less (st : ∀ b o, F b = some o → (∀ v, o ≠ CellO b v) → F' b = some o) : ∀ {x : D} {v : V} {pd : PyData}, Rep K β F x v → x.py = some pd → Rep K β' F' x v
  | _, _, _, .non, _ => .non
  | _, _, _, .bl b, _ => .bl b
  | _, _, _, .int b, _ => .int b
  | _, _, _, .str b, _ => .str b
  | .tup ds, _, _, .tup h1 h2 h3, h => by
    unfold D.py at h
    obtain ⟨ps, hp, h⟩ := Option.map_eq_some_iff.mp h
    exact .tup (h1.elim (fun z => .inl (z.elim (fun z => .inl (st _ _ z fun _ z => CellO.ne_tup z.symm)) fun ⟨o, z⟩ => .inr ⟨o, st _ _ z fun _ z => CellO.ne_frz z.symm⟩)) .inr) h2 (RepAll.less st h3 hp)
  | .lst ds, _, _, .lst h1 h2 h3, h => by
    unfold D.py at h
    obtain ⟨ps, hp, h⟩ := Option.map_eq_some_iff.mp h
    exact .lst (st _ _ h1 fun v z => by unfold CellO at z; cases z) h2 (RepAll.less st h3 hp)
  | _, _, _, .dct .., h => by unfold D.py at h; cases h
  | _, _, _, .bag _, h => by unfold D.py at h; cases h
  | _, _, _, .val _, h => by unfold D.py at h; cases h
  | _, _, _, .scr _, h => by unfold D.py at h; cases h
  | _, _, _, .lmv .., h => by unfold D.py at h; cases h
  | _, _, _, .lam .., h => by unfold D.py at h; cases h
theorem RepAll.less (st : ∀ b o, F b = some o → (∀ v, o ≠ CellO b v) → F' b = some o) : ∀ {xs : List D} {vs : List V} {ps : List PyData}, RepAll K β F xs vs → D.pys xs = some ps → RepAll K β' F' xs vs
  | _, _, _, .nil, _ => .nil
  | d :: ds, _, _, .cons h1 h2, h => by
    unfold D.pys at h
    split at h
    · rename_i x xs hx hxs
      exact .cons (Rep.less st h1 hx) (RepAll.less st h2 hxs)
    · cases h
end
end
theorem Rep.less' {K : PySem.W.Frag} {β β' : Option Addr} {F F' : Hp} (st : ∀ b o, F b = some o → (∀ v, o ≠ CellO b v) → F' b = some o) {x : D} {v : V} (h : Rep K β F x v) (hx : x.plain = true) : Rep K β' F' x v := by
  unfold D.plain at hx
  obtain ⟨pd, hp⟩ := Option.isSome_iff_exists.mp hx
  exact h.less st hp

/-! ### deed() -/
structure DoorX (T : Top) (er : Err → Addr) (j : Nat) (L : LamI) (ns : List Str) (xs : List D) (k : Err) : Prop where
  lb : LamB L ns
  pl : ∀ x ∈ xs, x.plain = true
  ev : ∀ B, EvX ⟨T, ns, L.scope, j, fun _ => false, none⟩ L.body (xs.map .d) B (.ref (er k)) B
theorem evx_deed {g : G} {ρ : Rho} {B : Bag} {er : Err → Addr} {i j : Nat} {n : Str} {L : LamI} {ns : List Str} {xs : List D} {k : Err} {p pos : Pos} (hN : g.N[i]? = some n) (hv : Vis g.sc n) (hi : ρ[i]? = some (.d (.lam L ns xs))) (hj : j + 1 ≤ g.k) (D : DoorX g.T er j L ns xs k)
    (hd : (n == ("__debug__" : Str)) = false := by decide) (hcd : (n == ("__classdict__" : Str)) = false := by decide) : EvX g (.Call (.Name n p) [] [] pos) ρ B (.ref (er k)) B := by
  refine ⟨fun X W hX tk => ⟨fun pins s σ H Q I ⟨c, F, R, q⟩ => ?_⟩⟩
  obtain ⟨v, hσ, hrep⟩ := R.dat i _ hi
  cases hrep with
  | @lam f c' _ cl _ _ vs hf hc' hns hlen inj cells rall =>
    subst hns
    refine wpAny_Call_Name_kw (thn ((pe_var (pos := p) (by rw [hX.hN]; exact hN) (by rw [hX.hs]; exact hv) hd hcd).run pins s σ H (fun v H1 => v = .ref f ∧ H1 = H) I ⟨.ref f, hσ, rfl, rfl⟩) fun u s1 ⟨v, H1, I1, r1, q1⟩ => ?_)
    obtain ⟨ev, eH⟩ := q1
    subst ev eH
    obtain rfl : u = Value.ref f := r1
    obtain ⟨⟨pm, ctv, of1⟩, _, _⟩ := I1.hok f _ (R.sub _ _ hf)
    obtain ⟨⟨oc, cvs, t, hoc, hdc, hvc⟩, _, _⟩ := I1.hok c' _ (R.sub _ _ hc')
    refine PySem.W.callWith_F0 ⟨_, _, _, _, of1⟩ ?_
    have LB := D.lb
    have hr : Room (j + 1) X.A := hX.room.mono hj
    have hcells : ∀ (i : Nat) (c : Addr) (v : V), (cl.map (·.2))[i]? = some c → vs[i]? = some v → H1 c = some (CellO c v) := fun i c v h1 h2 => R.sub _ _ (cells i c v h1 h2)
    have vof : ∀ b ∈ cl.map (·.2), ∃ v, F b = some (CellO b v) := fun b hb => by
      obtain ⟨i, hi⟩ := List.getElem?_of_mem hb
      have h1 := (List.getElem?_eq_some_iff.mp hi).1
      rw [List.length_map] at h1
      exact ⟨_, cells i b (vs[i]'(by omega)) hi (List.getElem?_eq_getElem (by omega))⟩
    have ci : CellsIn cl H1 := fun b hb => let ⟨v, hv⟩ := vof b hb; ⟨v, R.sub _ _ hv⟩
    have e0 : Env0 g.T.P g.T.w g.T.K.fr g.T.mg g.T.base X.A X.stack s1 H1 := by
      have := I1.env0
      rw [hX.hP, hX.hw, hX.hK, hX.hm, hX.hb] at this
      exact this
    have nfr : ∀ b ∈ cl.map (·.2), b ∉ frs X.stack := fun b hb z => by
      obtain ⟨v, hv⟩ := ci b hb
      rw [e0.frf b z] at hv
      cases hv
    have rc : codeAny (model X.prog X.w) X.A (.call (.ref f) ⟨[], []⟩) (CR (L2N.CX X.prog X.w) X.stack X.prog X.w H1 s1 Q (WE W σ)) s1 := by
      refine PySem.W.kla_callFunE hr.depth of1 rfl LB.co LB.gen rfl ⟨c', oc, cvs, t, rfl, hoc, hdc, hvc⟩ ?_
      rw [LB.bind]
      refine wpAny_pure (wpAny_newFunctionEnv (fun y hy => (LB.own y hy).2) (fun y hy => absurd hy (by simp)) (fun h₁ hns hsb => ⟨I1.nolimit.fresh _ hsb, ?_⟩) LB.kind)
      show codeAny _ _ (.expr L.body (PySem.W.envX L.qual L.scope s1.heap.objs.size f (.ref c') cl)) _ _
      have kp : ∀ b o, s1.heap.get? b = some o → h₁.get? b = some o := fun b o e => hsb.extBut b o (Nat.ne_of_lt (Heap.lt_size e)) (Heap.get?_push_of_some _ e)
      have J : Inv (lamX g.T L f c' cl X.A X.stack s1 (rmv cl H1) (fun cls d Hb => (∀ b ∈ cl.map (·.2), Hb b = none) → WE W σ cls d (plus cl H1 Hb))) [] (vs.map some) (rmv cl H1) { s1 with heap := h₁, toks := s1.toks + ([] : List (Str × Value)).length } :=
        lam_start LB e0 hr.hd hlen inj hcells hns kp
      have hx : At ⟨g.T, cl.map (·.1), L.scope, j, fun _ => false, none⟩ (lamX g.T L f c' cl X.A X.stack s1 (rmv cl H1) (fun cls d Hb => (∀ b ∈ cl.map (·.2), Hb b = none) → WE W σ cls d (plus cl H1 Hb))) :=
        ⟨rfl, rfl, rfl, rfl, rfl, rfl, rfl, LB.nd, rfl, hr.deeper _, fun _ h => (nomatch h), passes_of rfl, fun _ h => (nomatch h)⟩
      have tkL : L2N.Takes (lamX g.T L f c' cl X.A X.stack s1 (rmv cl H1) (fun cls d Hb => (∀ b ∈ cl.map (·.2), Hb b = none) → WE W σ cls d (plus cl H1 Hb))) (fun cls d _ H => (∀ b ∈ cl.map (·.2), H b = none) → WE W σ cls d (plus cl H1 H)) := L2N.takes_of rfl rfl rfl rfl
      have notCell : ∀ {b : Addr} {o : HO}, F b = some o → (∀ v, o ≠ CellO b v) → b ∉ cl.map (·.2) := fun {b o} h n z => by
        obtain ⟨v, hv⟩ := vof b z
        rw [h] at hv
        exact n v (Option.some.inj hv)
      have tabNot : ∀ p ∈ g.T.K.T, p.1 ∉ cl.map (·.2) := fun p hp z => by
        obtain ⟨⟨ps, h, _⟩, _⟩ := R.tab p hp
        obtain ⟨v, hv⟩ := ci _ z
        rw [h] at hv
        exact CellO.ne_tbl (Option.some.inj hv).symm
      have codeNot : ∀ c2 q2, H1 c2 = some (LamX.CodeO c2 q2) → c2 ∉ cl.map (·.2) := fun c2 q2 h z => by
        obtain ⟨v, hv⟩ := ci _ z
        obtain ⟨u, ⟨o, ho, hd⟩, _⟩ := cell_of I1.hok hv
        obtain ⟨⟨oc, cvs, t, hoc, hdc, hvc⟩, _, _⟩ := I1.hok c2 _ h
        rw [ho] at hoc
        cases hoc
        rw [hd] at hdc
        cases hdc
      have rel0 : Rel g.T.K ⟨none, rmv cl H1, rmv cl F⟩ (xs.map .d) B (vs.map some) (rmv cl H1) (rmv cl F) := by
        refine ⟨by rw [List.length_map, List.length_map]; exact rall.length, fun b o _ _ h => h, fun b h => h, fun p hp => ?_, Same.refl _, fun b _ h => h, fun b o h => ?_, fun a h => (nomatch h), fun i x h => ?_, fun i ct h => ?_, fun i j ct ct' p h => ?_⟩
        · obtain ⟨⟨ps, h1, h2, h3⟩, h4⟩ := R.tab p hp
          refine ⟨⟨ps, by rw [rmv_out (tabNot p hp)]; exact h1, h2, fun pos cv hc => ?_⟩, rmv_none h4⟩
          obtain ⟨c2, e1, e2⟩ := h3 pos cv hc
          exact ⟨c2, e1, by rw [rmv_out (codeNot _ _ (R.sub _ _ e2))]; exact e2⟩
        · obtain ⟨h1, h2⟩ := rmv_some h
          rw [rmv_out h2]
          exact R.sub _ _ h1
        · rw [List.getElem?_map] at h
          obtain ⟨y, h1, h2⟩ := Option.map_eq_some_iff.mp h
          cases h2
          obtain ⟨v, h3, h4⟩ := rall.get h1
          refine ⟨v, by rw [List.getElem?_map, h3]; rfl, h4.less' (fun b o h n => ?_) (D.pl _ (List.mem_of_getElem? h1))⟩
          rw [rmv_out (notCell h n)]
          exact h
        · rw [List.getElem?_map] at h
          obtain ⟨y, _, h2⟩ := Option.map_eq_some_iff.mp h
          cases h2
        · rw [List.getElem?_map] at h
          obtain ⟨y, _, h2⟩ := Option.map_eq_some_iff.mp h
          cases h2
      refine PySem.W.kla_codeExpr ?_
      have run := ((D.ev B).h _ _ hx tkL).run [] _ _ (rmv cl H1) (fun _ _ => False) J ⟨_, _, rel0, fun ρ' σ' Hb Fb R' e' kc => ?_⟩
      · rw [hX.hP, hX.hw]
        refine wpAny_mono run (fun v s' hq => ?_) fun e s' hq => ?_
        · obtain ⟨_, _, _, _, z⟩ := hq
          exact z.elim
        · refine wpAny_mono hq (fun _ s2 hc => ?_) fun e2 s2 hc => ?_
          · exact cx_plus ci e0.hok nfr hc
          · exact cx_plus ci e0.hok nfr hc
      · have F2 : Rel g.T.K c ρ B σ (plus cl H1 Hb) (plus cl F Fb) := by
          refine rel_call R (fun b o hb ho h => ?_) (fun b h => ?_) (fun p hp => ?_) (fun b o h => ?_) (fun b h1 h2 => ?_) (fun b o h => ?_) fun a ha => ?_
          · by_cases hc : b ∈ cl.map (·.2)
            · rw [plus_in hc]; exact h
            · rw [plus_out hc]
              exact R'.fr b o (fun z => nomatch z) ho (by show rmv cl H1 b = _; rw [rmv_out hc]; exact h)
          · by_cases hc : b ∈ cl.map (·.2)
            · rw [plus_in hc]; exact h
            · rw [plus_out hc]
              exact R'.st b (by show rmv cl H1 b ≠ none; rw [rmv_out hc]; exact h)
          · obtain ⟨⟨ps, h1, h2, h3⟩, h4⟩ := R'.tab p hp
            refine ⟨⟨ps, by rw [plus_out (tabNot p hp)]; exact h1, h2, fun pos cv hcv => ?_⟩, by rw [plus_out (tabNot p hp)]; exact h4⟩
            obtain ⟨c2, e1, e2⟩ := h3 pos cv hcv
            refine ⟨c2, e1, ?_⟩
            rw [plus_out fun z => by have q := R'.sub _ _ e2; rw [kc _ z] at q; cases q]
            exact e2
          · by_cases hc : b ∈ cl.map (·.2)
            · rw [plus_in hc]; exact h
            · rw [plus_out hc]
              exact e' b o (by rw [rmv_out hc]; exact h)
          · by_cases hc : b ∈ cl.map (·.2)
            · rw [plus_in hc]; exact h2
            · rw [plus_out hc]
              exact R'.dj b (by show rmv cl H1 b ≠ none; rw [rmv_out hc]; exact h1) (by show rmv cl F b = none; exact rmv_none h2)
          · by_cases hc : b ∈ cl.map (·.2)
            · rw [plus_in hc] at h ⊢
              exact R.sub b o h
            · rw [plus_out hc] at h ⊢
              exact R'.sub b o h
          · have hb := (R.bag a ha).1
            have hc : a ∉ cl.map (·.2) := fun z => by
              obtain ⟨v, hv⟩ := ci a z
              rw [hb] at hv
              unfold bagH CellO at hv
              cases hv
            rw [plus_out hc]
            exact R'.fr a _ (fun z => nomatch z) bag_nt.1 (by show rmv cl H1 a = _; rw [rmv_out hc]; exact hb)
        refine q ρ σ _ _ F2 fun b o h => ?_
        by_cases hc : b ∈ cl.map (·.2)
        · rw [plus_in hc]; exact h
        · rw [plus_out hc]
          exact e' b o (by rw [rmv_out hc]; exact h)
    refine wpAny_call (codeAny_mono rc fun r s' hq => ?_)
    cases r with
    | error e => exact L2N.passAt tk σ pins H1 s1 e s' I1 hq
    | ok fl =>
      cases fl with
      | ret u => exact I1.after hq
      | next => exact False.elim hq
      | brk => exact False.elim hq
      | cont => exact False.elim hq
end PD
namespace PD
open PySem PySem.Spec PyProof.Rows L2 RZ HotX L2H

/-! ### iterators that end while an exception is handled -/
section
variable {prog : Program} {w : World} {A : Around} {E : Value → Shared → Prop} {s : Shared}
theorem stop_hot {α : Type} {x1 : Addr} {Q : α → Shared → Prop} (hot : HotAt A x1 s.heap) (hE : ∀ h' e, (∀ b o, s.heap.get? b = some o → h'.get? b = some o) → (∃ o, h'.get? e = some o ∧ o.cls = .type "StopIteration") → E (.ref e) { s with heap := h' }) :
    wpAny (model prog w) A (newExc (.type "StopIteration") [] >>= fun v => (raiseNew v : Sem α)) Q E s := by
  obtain ⟨hh, o1, v1, g1, d1, c1⟩ := hot
  refine wpAny_bind ?_
  simp only [newExc, newTuple]
  refine wpAny_bind (wpAny_newObj_type ?_ (by size_fits))
  refine wpAny_bind (m := firstArgMember _ _) (wpAny_of_eq (a := Value.none) (by first | rfl | (simp only [firstArgMember]; rfl)) ?_)
  refine wpAny_newObj_type ?_ (by size_fits)
  have up : ∀ (o o' : Obj) (b : Addr) (u : Obj), s.heap.get? b = some u → ((s.heap.push o).push o').get? b = some u := fun o o' b u e => Heap.get?_push_of_some _ (Heap.get?_push_of_some _ e)
  refine raiseNew_hot ⟨hh, o1, v1, up _ _ _ _ g1, d1, c1⟩ (Nat.ne_of_lt (Heap.lt_size (Heap.get?_push_of_some _ g1))) (Heap.get?_push_size _ rfl) rfl (by first | (simp; done) | (simp; omega) | (simp only [Array.size_append]; simp; omega)) ?_
  refine hE _ _ (fun b o e => ?_) ⟨_, Heap.get?_update_self _ (Heap.get?_push_size _ rfl) rfl, rfl⟩
  rw [Heap.get?_update_other _ _ (Nat.ne_of_gt (Heap.lt_size (Heap.get?_push_of_some _ e)))]
  exact up _ _ _ _ e
theorem hot_same {x1 it : Addr} {h h' : Heap} (hot : HotAt A x1 h) (hs : Heap.SameBut it h h') (hne : x1 ≠ it) : HotAt A x1 h' := by
  obtain ⟨hh, o1, v1, g1, d1, c1⟩ := hot
  exact ⟨hh, o1, v1, (hs.2 x1 hne).trans g1, d1, c1⟩
/-- a list's iterator at its end -/
theorem list_stop_hot {it l x1 : Addr} {i : Nat} {items : Array Value} {Q : Value → Shared → Prop} (hot : HotAt A x1 s.heap) (hne : x1 ≠ it) (hit : s.heap.IsListIter it l i) (hl : s.heap.IsList l items) (hx : items[i]? = none)
    (hE : ∀ h' e, Heap.ExtBut it s.heap h' → (∃ o, h'.get? e = some o ∧ o.cls = .type "StopIteration") → E (.ref e) { s with heap := h' }) : wpAny (model prog w) A (Builtin.SmallTypes.nextOf (.ref it)) Q E s := by
  have ty := hit.typeIs
  obtain ⟨o, ho, hc, hd⟩ := hit
  obtain ⟨ol, hol, _, nl, hdl⟩ := hl
  unfold Builtin.SmallTypes.nextOf
  refine wpAny_bind (wpAny_callSpecial?_slot (name := Str.ofString "__next__") ty slot_listiter_next (wpAny_call_entry slot_listiter_next ty entry_listiter_next ?_ (args_listiter_next _)))
  show wpAny _ A.in1 (field (.ref it) 0 >>= _) _ _ s
  refine wpAny_bind (wpAny_field ho hd (x := .ref l) rfl ?_)
  show wpAny _ A.in1 (if (Value.ref l == Value.none) = true then _ else _) _ _ s
  rw [if_neg (show ¬ ((Value.ref l == .none) = true) from Bool.false_ne_true)]
  show wpAny _ A.in1 (field (.ref it) 1 >>= _) _ _ s
  refine wpAny_bind (wpAny_field ho hd (x := .int i 0) rfl ?_)
  show wpAny _ A.in1 (seqItems? (.ref l) >>= _) _ _ s
  refine wpAny_bind (wpAny_seqItems hol hdl ?_)
  simp only [Int.toNat_natCast, hx]
  have hot' : HotAt A.in1 x1 s.heap := hot
  refine wpAny_bind (wpAny_rule (wpAny_bind (wpAny_setField ho hd (by simp) ?_)))
  have sb := Heap.SameBut.update s.heap it (Obj.mapFields (·.setIfInBounds 0 Value.none))
  refine stop_hot (hot_same hot' sb hne) fun h' e kp he => ?_
  exact hE _ _ (fun b o hb q => kp b o ((sb.2 b hb).trans q)) he
def HIt (A : Around) (it l x1 : Addr) (items : Array Value) : Nat → Heap → Prop := fun i h => h.IsListIter it l i ∧ h.IsList l items ∧ HotAt A x1 h
theorem draws_hot {it l x1 : Addr} {items : Array Value} (h1 : x1 ≠ it) (h2 : l ≠ it) : Draws prog w A it [it, l, x1] items.size (fun i v => items[i]? = some v) (HIt A it l x1 items) where
  live := fun i h st => by
    obtain ⟨⟨o, e, _⟩, _⟩ := st
    exact ⟨o, e⟩
  frame := fun i h h' st k => by
    obtain ⟨q1, ⟨ol, e2, r2⟩, hh, o1, v1, e3, r3⟩ := st
    exact ⟨q1.at fun o e => k it (by simp) o e, ⟨ol, k l (by simp) _ e2, r2⟩, hh, o1, v1, k x1 (by simp) _ e3, r3⟩
  item := fun i s Q E hi st hQ => by
    obtain ⟨q1, q2, q3⟩ := st
    refine wpAny_nextOf_list_item q1 q2 (x := items[i]) (by simp [hi]) fun h' q1' sb => ?_
    exact hQ items[i] h' s.toks (by simp [hi]) ⟨q1', q2.extBut sb.extBut h2, hot_same q3 sb h1⟩ sb
  done := fun s Q E st hE => by
    obtain ⟨q1, q2, q3⟩ := st
    exact list_stop_hot q3 h1 q1 q2 (by simp) hE
/-- a tuple's items taken out -/
theorem unpack_hot {t x1 : Addr} {items : Array Value} {Q : List Value → Shared → Prop} (hot : HotAt A x1 s.heap) (ht : IsTup s.heap t items) (hQ : ∀ h', Heap.ExtBut s.heap.objs.size s.heap h' → Q items.toList { s with heap := h' }) :
    wpAny (model prog w) A (unpackItems (.ref t) items.size none) Q E s := by
  have hlt : t ≠ s.heap.objs.size := by obtain ⟨o, ho, _⟩ := ht; exact Nat.ne_of_lt (Heap.lt_size ho)
  obtain ⟨hh, o1, v1, g1, d1, c1⟩ := hot
  have hx : x1 ≠ s.heap.objs.size := Nat.ne_of_lt (Heap.lt_size g1)
  unfold unpackItems notIterableAtAll
  refine wpAny_bind (wpAny_bind (wpAny_specialOf ht.typeIs slot_tuple_iter.lookup (wpAny_pure ?_)))
  simp only [Bool.false_eq_true, if_false]
  refine wpAny_bind (wpAny_holding (iter_tuple ht (wpAny_bind (wpAny_holding (draw_tuple hlt items.size 0 _ _ ⟨_, Heap.get?_push_size _ rfl, rfl, rfl⟩ (ht.push _) (by omega) fun h1 it1 sb => ?_)))))
  rw [show (items.toList.drop 0).take items.size = items.toList by rw [List.drop_zero]; exact List.take_of_length_le (by simp), if_neg (by simp)]
  have g2 : h1.get? x1 = some o1 := (sb.2 x1 hx).trans (Heap.get?_push_of_some _ g1)
  have t1 : IsTup h1 t items := (ht.push _).extBut sb.extBut hlt
  refine wpAny_bind (wpAny_holding (?_ : wpAny _ _ (pyNext (.ref s.heap.objs.size)) _ _ _))
  have ty := it1.typeIs (s := { s with heap := h1 })
  obtain ⟨o, ho, hc, hd⟩ := it1
  obtain ⟨ol, hol, _, nl, hdl⟩ := t1
  unfold pyNext
  refine wpAny_bind (wpAny_attempt (wpAny_callSpecial?_slot (name := Str.ofString "__next__") ty slot_tupleiter_next (wpAny_call_entry slot_tupleiter_next ty entry_tupleiter_next ?_ (args_tupleiter_next _))))
  show wpAny _ A.in1 (field (.ref s.heap.objs.size) 0 >>= _) _ _ _
  refine wpAny_bind (wpAny_field ho hd (x := .ref t) rfl ?_)
  show wpAny _ A.in1 (if (Value.ref t == Value.none) = true then _ else _) _ _ _
  rw [if_neg (show ¬ ((Value.ref t == .none) = true) from Bool.false_ne_true)]
  show wpAny _ A.in1 (field (.ref s.heap.objs.size) 1 >>= _) _ _ _
  refine wpAny_bind (wpAny_field ho hd (x := .int (0 + items.size : Nat) 0) rfl ?_)
  show wpAny _ A.in1 (seqItems? (.ref t) >>= _) _ _ _
  refine wpAny_bind (wpAny_seqItems hol hdl ?_)
  simp only [Int.toNat_natCast, show items[0 + items.size]? = none by simp]
  refine wpAny_bind (wpAny_rule (wpAny_bind (wpAny_setField ho hd (by simp) ?_)))
  have sb2 := Heap.SameBut.update h1 s.heap.objs.size (Obj.mapFields (·.setIfInBounds 0 Value.none))
  have hot' : HotAt A.in1 x1 h1 := ⟨hh, o1, v1, g2, d1, c1⟩
  refine stop_hot (hot_same hot' sb2 hx) fun h' e kp he => ?_
  obtain ⟨oe, hoe, hce⟩ := he
  refine wpAny_bind (wpAny_isInstance (T := "StopIteration") (b := true) ⟨oe, hoe, hce⟩ isSubtype_stop (wpAny_pure ?_))
  simp only [Option.isSome_none, Bool.false_eq_true, if_false]
  exact wpAny_pure (hQ h' fun b o hb q => kp b o ((sb2.2 b hb).trans ((sb.2 b hb).trans (Heap.get?_push_of_some _ q))))
end
/-- (a, b, ..) = a tuple of that length -/
theorem pg_tupH {X : Cx} {pos : Pos} {es : List Expr} {k : Nat} {t : TGs} {n : Nat} (hc : HotC X) (h : PGs X es t) (hn : (assignEach es X.env).length = n := by rfl) (hst : (assignEach es X.env).findIdx? (·.1) = none := by rfl) : PG X (.Tuple es k pos) (gTup X.K n t) := by
  refine ⟨fun pins s σ H v u Q I r hw => ?_⟩
  obtain ⟨a, xs, rfl, hq, hl, hw⟩ := hw
  cases r
  obtain ⟨x1, hot⟩ := hc.at I
  obtain ⟨its, rv, ht, hz⟩ := I.tuple hq
  have hs : (assignEach es X.env).length = its.toArray.size := by rw [hn, ← hl, List.size_toArray]; exact rv.length
  rw [assign_Tuple]
  refine wpAny_bind (wpAny_standAt ?_)
  unfold unpack
  rw [hs, hst]
  refine wpAny_bind (wpAny_holding (unpack_hot hot ht fun h' hx => ?_))
  have I1 : Inv X pins σ H { s with heap := h' } := I.kept (t' := s.toks) fun b o e => hx b o (Nat.ne_of_lt (Heap.lt_size e)) e
  exact h.run pins { s with heap := h' } σ H xs its Q I1 rv hw
/-! ### zip of two lists of one length -/
def ItZ (K : PySem.W.Frag) (a b : Addr) (xs ys : List V) : It :=
  ⟨fun i H => SqL K H a xs ∧ SqL K H b ys ∧ i < xs.length ∧ i < ys.length, fun i H v H' => ∃ T x y, v = .ref T ∧ H T = none ∧ H' = upd H T (.tup [x, y]) ∧ xs[i]? = some x ∧ ys[i]? = some y,
    fun i H => SqL K H a xs ∧ SqL K H b ys ∧ i = xs.length ∧ i = ys.length⟩
abbrev zipTn (a b z TI TO i1 i2 : Addr) : Nat → Heap → Prop := fun i h => IsZip h z TI TO .none ∧ IsTupOf2 h TI (.ref i1) (.ref i2) ∧ (∃ x y, IsTupOf2 h TO x y) ∧ h.IsListIter i1 a i ∧ h.IsListIter i2 b i
theorem zipSep {a b z TI TO i1 i2 x1 : Addr} {A : Around} {i : Nat} {h : Heap} (D : ZipApart z TI TO i1 i2 a b) (st : zipTn a b z TI TO i1 i2 i h) (hot : HotAt A x1 h) : ZipSep2 z TI TO i1 i2 [i1, a, x1] [i2, b, x1] ∧ x1 ≠ i1 ∧ x1 ≠ i2 := by
  obtain ⟨hz, hTI, ⟨x, y, hTO⟩, ⟨o2, e2, _, d2⟩, ⟨o3, e3, _, d3⟩⟩ := st
  obtain ⟨_, o1, v1, g1, d1, c1⟩ := hot
  have nz : x1 ≠ z := by
    rintro rfl
    rw [hz] at g1; cases g1; cases d1; cases c1
  have nT : x1 ≠ TO := by
    rintro rfl
    rw [hTO] at g1; cases g1; cases d1
  have n1 : x1 ≠ i1 := by
    rintro rfl
    rw [e2] at g1; cases g1; rw [d2] at d1; cases d1; cases c1
  have n2 : x1 ≠ i2 := by
    rintro rfl
    rw [e3] at g1; cases g1; rw [d3] at d1; cases d1; cases c1
  exact ⟨⟨D.TIz, D.TOz, D.TITO, D.TIi1, by simp, by simp [D.i1z.symm, D.l1z.symm, nz.symm], by simp [D.TOi1, D.l1TO.symm, nT.symm], D.TIi2, by simp, by simp [D.i2z.symm, D.l2z.symm, nz.symm], by simp [D.TOi2, D.l2TO.symm, nT.symm],
    by simp [D.i12, D.l2i1.symm, n1.symm], by simp [D.i12.symm, D.l1i2.symm, n2.symm]⟩, n1, n2⟩
theorem zip_obj {a b z TI TO i1 i2 : Addr} {i : Nat} {h : Heap} (st : zipTn a b z TI TO i1 i2 i h) (c : Addr) (hc : c ∈ [z, TI, TO, i1, i2]) : ∃ o, h.get? c = some o ∧ ∀ v, o.data ≠ .cell v := by
  obtain ⟨hz, hTI, ⟨x, y, hTO⟩, ⟨o2, e2, _, d2⟩, ⟨o3, e3, _, d3⟩⟩ := st
  simp only [List.mem_cons, List.not_mem_nil, or_false] at hc
  rcases hc with rfl | rfl | rfl | rfl | rfl
  · exact ⟨_, hz, fun _ z => by cases z⟩
  · exact ⟨_, hTI, fun _ z => by cases z⟩
  · exact ⟨_, hTO, fun _ z => by cases z⟩
  · exact ⟨o2, e2, fun _ z => by rw [d2] at z; cases z⟩
  · exact ⟨o3, e3, fun _ z => by rw [d3] at z; cases z⟩
theorem turn_zipH {P : Program} {w : World} {K : PySem.W.Frag} {elts : List Expr} {kk : Nat} {tpos : Pos} {a b z TI TO i1 i2 : Addr} {xs ys : List V} (D : ZipApart z TI TO i1 i2 a b) : TurnH P w K (.Tuple elts kk tpos) (ItZ K a b xs ys) [z, TI, TO, i1, i2] z (zipTn a b z TI TO i1 i2) where
  mem := List.mem_cons_self
  obj := fun i h st c hc => zip_obj st c hc
  keep := fun i h h' ⟨hz, hTI, ⟨x, y, hTO⟩, q1, q2⟩ k => ⟨k z (by simp) _ hz, k TI (by simp) _ hTI, ⟨x, y, k TO (by simp) _ hTO⟩, q1.at fun o e => k i1 (by simp) o e, q2.at fun o e => k i2 (by simp) o e⟩
  item := by
    intro X hP hw hK hc i pins s σ H E I hf st ⟨q1, q2, l1, l2⟩
    subst hP hw hK
    obtain ⟨x1, hot⟩ := hc.at I
    obtain ⟨S, n1, n2⟩ := zipSep D st hot
    obtain ⟨hz, hTI, ⟨x0, y0, hTO⟩, h1, h2⟩ := st
    obtain ⟨us, ru, p1, _⟩ := I.list q1
    obtain ⟨ws, rw_, p2, _⟩ := I.list q2
    have hot' : HotAt X.A.in1 x1 s.heap := hot
    have k1 : i < us.toArray.size := by rw [List.size_toArray, ← ru.length]; exact l1
    have k2 : i < ws.toArray.size := by rw [List.size_toArray, ← rw_.length]; exact l2
    refine wpAny_pyNext_zipD2_item S (draws_hot n1 D.l1i1) (draws_hot n2 D.l2i2) hz hTI hTO ⟨h1, p1.isList, hot'⟩ ⟨h2, p2.isList, hot'⟩ k1 k2 fun u u2 h' tk e1 e2 z' TO' s1 s2 hT hsz hk => ?_
    refine ⟨_, rfl, wpAny_letOwnedTupleGo_zip (s := { s with heap := h', toks := tk }) z' fun h'' z'' sb => ?_⟩
    have hx := List.getElem?_eq_getElem l1
    have hy := List.getElem?_eq_getElem l2
    obtain ⟨u', eu, r1⟩ := ru.get hx
    obtain ⟨w', ew, r2⟩ := rw_.get hy
    have eu' : us.toArray[i]? = some u' := by simpa using eu
    have ew' : ws.toArray[i]? = some w' := by simpa using ew
    rw [e1] at eu'; cases eu'
    rw [e2] at ew'; cases ew'
    have zlt : z < s.heap.objs.size := Heap.lt_size hz
    have up : ∀ c o, c ≠ z → c ≠ TO → c ≠ i1 → c ≠ i2 → s.heap.get? c = some o → h''.get? c = some o := fun c o c1 c2 c3 c4 e => (sb.2 c c1).trans (hk c o c1 c2 c3 c4 e)
    have new : ObjOk X.prog X.w (upd H s.heap.objs.size (.tup [xs[i], ys[i]])) h'' s.heap.objs.size (.tup [xs[i], ys[i]]) := ⟨by show 2 ≤ sizeLine; decide, _, .cons r1 (.cons r2 .nil), ⟨_, (sb.2 _ (Nat.ne_of_gt zlt)).trans hT, rfl, _, rfl⟩⟩
    have I1 : Inv X pins σ (upd H s.heap.objs.size (.tup [xs[i], ys[i]])) { s with heap := h'', toks := tk } := I.turnedNew (t' := tk) (ch := [z, TI, TO, i1, i2]) (fun c o hb e => by
      simp only [List.mem_cons, List.not_mem_nil, or_false, not_or] at hb
      exact up c o hb.1 hb.2.2.1 hb.2.2.2.1 hb.2.2.2.2 e) hf (Nat.le_refl _) new
    refine ⟨.ref s.heap.objs.size, _, I1, rfl, ⟨_, _, _, rfl, I.hok.fresh (Nat.le_refl _), rfl, hx, hy⟩, ⟨z'', up _ _ D.TIz D.TITO D.TIi1 D.TIi2 hTI, ⟨u, u2, (sb.2 _ D.TOz).trans TO'⟩, s1.1.at fun o e => (sb.2 _ D.i1z).trans e, s2.1.at fun o e => (sb.2 _ D.i2z).trans e⟩, fun c hcm => ?_⟩
    rw [upd_ne]
    · exact (hf c hcm).1
    · rintro rfl
      obtain ⟨o, e, _⟩ := zip_obj ⟨hz, hTI, ⟨x0, y0, hTO⟩, h1, h2⟩ _ hcm
      exact absurd (Heap.lt_size e) (Nat.lt_irrefl _)
  done := by
    intro X hP hw hK hc i pins s σ H E I hf st ⟨q1, q2, l1, l2⟩
    subst hP hw hK
    obtain ⟨x1, hot⟩ := hc.at I
    obtain ⟨S, n1, n2⟩ := zipSep D st hot
    obtain ⟨hz, hTI, ⟨x0, y0, hTO⟩, h1, h2⟩ := st
    obtain ⟨us, ru, p1, _⟩ := I.list q1
    obtain ⟨ws, rw_, p2, _⟩ := I.list q2
    have hot' : HotAt X.A.in1 x1 s.heap := hot
    have k1 : i = us.toArray.size := by rw [List.size_toArray, ← ru.length]; exact l1
    have k2 : i = ws.toArray.size := by rw [List.size_toArray, ← rw_.length]; exact l2
    refine wpAny_pyNext_zipD2_end S (draws_hot n1 D.l1i1) (draws_hot n2 D.l2i2) hz hTI hTO ⟨h1, p1.isList, hot'⟩ ⟨h2, p2.isList, hot'⟩ (Nat.le_of_eq k1) (Nat.le_of_eq k2) (.inl k1) fun h' tk hk => ⟨rfl, I.turnedL (t' := tk) (ch := [z, TI, TO, i1, i2]) (fun c o hb e => ?_) hf⟩
    simp only [List.mem_cons, List.not_mem_nil, or_false, not_or] at hb
    exact hk c o hb.1 hb.2.2.1 hb.2.2.2.1 hb.2.2.2.2 e
  self := fun A i s Q E st h => wpAny_pyIter_zip st.1 h
def iZipH (K : PySem.W.Frag) (ta : TA) : TI := fun σ H R => ta σ H fun vs H1 => ∃ a b xs ys, vs = [.ref a, .ref b] ∧ SqL K H1 a xs ∧ SqL K H1 b ys ∧ R (ItZ K a b xs ys) H1
theorem pi_zipH {X : Cx} {e e2 : Expr} {ta : TA} {p pos tpos : Pos} {elts : List Expr} {kk : Nat} (hg : Gl X "zip") (hm : X.mg "zip" = none) (ha : PA X [e, e2] ta) (hs : starEach [e, e2] X.env = (false, eval e X.env) :: starEach [e2] X.env := by rfl) (hpl : (backTo pos (starEach [e2] X.env)).any (·.1) = false := by rfl) :
    PIH X (.Tuple elts kk tpos) (.Call (.Name "zip" p) [e, e2] [] pos) (iZipH X.K ta) := by
  refine ⟨fun pins s σ H R I h => Call_ (ld_blt I hg hm PyProof.Rows.boot_zip (PyProof.Rows.callWith_type1 (thn (ha.run pos pins s σ H _ I h) fun us s1 ⟨vs, H1, I1, r1, a, b, xs, ys, ex, q1, q2, q⟩ => ?_) hs hpl))⟩
  subst ex
  obtain ⟨u1, u2, rfl, ra, rb⟩ := vals2 r1
  cases ra
  cases rb
  obtain ⟨us, ru, p1, _⟩ := I1.list q1
  obtain ⟨ws, rw_, p2, _⟩ := I1.list q2
  refine call_zip_2 p1.isList p2.isList fun h' hz hTI hTO k1 k2 hsz hk => wpAny_pyIter_zip hz ?_
  refine ⟨s1.heap.objs.size + 4, [s1.heap.objs.size + 4, s1.heap.objs.size + 2, s1.heap.objs.size + 3, s1.heap.objs.size, s1.heap.objs.size + 1], _, _, H1, rfl, I1.kept (t' := s1.toks) hk, turn_zipH (PySem.W.ktu_apart s1.heap.objs.size a b p1.lt p2.lt), ⟨hz, hTI, ⟨_, _, hTO⟩, k1, k2⟩, fun c hc => ?_, q⟩
  have hle : s1.heap.objs.size ≤ c := by
    simp only [List.mem_cons, List.not_mem_nil, or_false] at hc
    rcases hc with q | q | q | q | q <;> rw [q] <;> first | exact Nat.le_add_right _ _ | exact Nat.le_refl _
  exact I1.fpOk hle (I1.hok.fresh hle)
end PD
namespace PD
open PySem PySem.Spec PyProof.Rows L2 RZ HotX L2H

/-! ### a list comprehension while an exception is handled -/
abbrev hotB (X : Cx) (p : Addr × Obj) (s : Shared) (H : Hp) (sc : Scope) (e : Env) (fp : List Addr) : Cx := (X.blk s H sc e fp).tr [p] (fun _ _ => False)
section
variable {X : Cx} {p : Addr × Obj}
theorem pin_stk {pins : List (Addr × Obj)} {σ : L2.St} {H : Hp} {s : Shared} (hp : p ∈ X.pn) (I : Inv X pins σ H s) : s.heap.get? p.1 = some p.2 ∧ H p.1 = none ∧ p.1 ∉ frs X.stack ∧ ∀ v, p.2.data ≠ .cell v := by
  obtain ⟨q1, q2, q3, q4, q5⟩ := I.pin p (List.mem_append_left _ hp)
  exact ⟨q1, q2, fun m => (List.mem_cons.mp (I.stkSub p.1 m)).elim q3 q4, q5⟩
theorem pe_lcH {elt tg iter : Expr} {ifs : List Expr} {sc : Scope} {own : List (Str × Nat)} {pos : Pos} {wi : TI} {g : TG} {tt : TT} {te : TE} (hot : Hot1 X.A p) (hp : p ∈ X.pn) (hN : X.N.Nodup) (hi : PIH X tg iter wi) (ok : BlkOk X.N X.env.scope sc own)
    (hg : ∀ s H C cl fp, PG (hotB X p s H sc (compEnvC sc cl C X.env) fp) tg g) (ht : ∀ s H C cl fp, PTs (hotB X p s H sc (compEnvC sc cl C X.env) fp) ifs tt) (he : ∀ s H C cl fp, PE (hotB X p s H sc (compEnvC sc cl C X.env) fp) elt te)
    (hs : ∀ x, foldedSetIterable iter X.env x = pure x := by intro _; rfl) : PE X (.ListComp elt [⟨tg, iter, ifs, 0⟩] sc pos) (tLc wi g tt te (own.map (·.2))) := by
  refine ⟨fun pins s σ H Q I h => ?_⟩
  rw [eval_ListComp]
  have cells : ∀ y ∈ sc.names, y.2 = .free → ∃ c, X.env.cells.lookup y.1 = some c := fun y hy e => I.ok.has _ (ok.free y hy e)
  refine wpAny_comprehension_free (use := none) rfl hs (closure_ok cells) ok.kind (fun y hy e => (ok.uniq y hy).trans (by rw [e])) (thn (hi.run pins s σ H _ I h) fun v1 s1 z1 => thn z1 fun v2 s2 ⟨it, fp, tn, J, H2, ev, I2, T, st2, f2, q⟩ => ?_)
  subst ev
  refine wpAny_newObj_type (newEnv_comp ?_) (by show 0 ≤ sizeLine; decide)
  obtain ⟨D, hD⟩ : ∃ D, s2.heap.objs.size = D := ⟨_, rfl⟩
  rw [hD]
  have nD : H2 D = none := I2.hok.fresh (Nat.le_of_eq hD)
  obtain ⟨W, ⟨m0, w0⟩, turn⟩ := q D nD
  obtain ⟨h3, e3⟩ : ∃ h3, s2.heap.push { cls := .type "list", data := .seq ([] : List Value).toArray } = h3 := ⟨_, rfl⟩
  have up3 : ∀ b o, s2.heap.get? b = some o → h3.get? b = some o := fun b o e => by rw [← e3]; exact Heap.get?_push_of_some _ e
  have sz3 : h3.objs.size = s2.heap.objs.size + 1 := by rw [← e3, Heap.size_push]
  obtain ⟨H3, eH3⟩ : ∃ H3, upd H2 D (.lst []) = H3 := ⟨_, rfl⟩
  have I3 : Inv X pins σ H3 { s2 with heap := h3 } := by
    rw [← eH3]
    refine I2.laid (t' := s2.toks) up3 (Nat.le_of_eq hD) ⟨Nat.zero_le _, [], 0, .nil, ?_⟩
    rw [← e3, ← hD]
    exact Heap.get?_push_size _ rfl
  have small : ∀ b ∈ fp, b < s2.heap.objs.size := fun b hb => let ⟨o, e, _⟩ := T.obj _ _ st2 b hb; Heap.lt_size e
  have f3 : ∀ b ∈ fp, FpOk X pins H3 b ∧ b < ({ s2 with heap := h3 } : Shared).heap.objs.size := fun b hb => by
    have := small b hb
    refine ⟨⟨?_, (f2 b hb).2⟩, by show b < h3.objs.size; rw [sz3]; exact Nat.lt_succ_of_lt this⟩
    rw [← eH3, upd_ne fun z => absurd this (by rw [z, ← hD]; exact Nat.lt_irrefl _)]
    exact (f2 b hb).1
  have st3 := T.keep _ _ h3 st2 fun b _ o e => up3 b o e
  have I4 := block_start (own := own) I3 ok hN f3
  show codeAny _ _ (.compStart (.ListComp elt [⟨tg, iter, ifs, 0⟩] sc pos) 0 (.ref it) (.ref D) (compEnvC sc (cellsFrom (({ s2 with heap := s2.heap.push { cls := .type "list", data := .seq ([] : List Value).toArray } } : Shared).heap.objs.size + 1) sc.names (cloFrom X.env.cells sc.names [])) ({ s2 with heap := s2.heap.push { cls := .type "list", data := .seq ([] : List Value).toArray } } : Shared).heap.objs.size X.env)) _ _
  rw [e3]
  rw [eH3] at w0
  have pg := hg { s2 with heap := h3 } H3 h3.objs.size (cellsFrom (h3.objs.size + 1) sc.names (cloFrom X.env.cells sc.names [])) fp
  have pt := ht { s2 with heap := h3 } H3 h3.objs.size (cellsFrom (h3.objs.size + 1) sc.names (cloFrom X.env.cells sc.names [])) fp
  have pe := he { s2 with heap := h3 } H3 h3.objs.size (cellsFrom (h3.objs.size + 1) sc.names (cloFrom X.env.cells sc.names [])) fp
  obtain ⟨ce, eC⟩ : ∃ ce, compEnvC sc (cellsFrom (h3.objs.size + 1) sc.names (cloFrom X.env.cells sc.names [])) h3.objs.size X.env = ce := ⟨_, rfl⟩
  have cL : ce.locals = h3.objs.size := by rw [← eC]; rfl
  rw [eC] at pg pt pe ⊢
  obtain ⟨s4, e4⟩ : ∃ s4 : Shared, ({ s2 with heap := pushCells (h3.push { cls := .type "dict", data := .dict #[] }) sc.names } : Shared) = s4 := ⟨_, rfl⟩
  have up4 : ∀ b o, h3.get? b = some o → s4.heap.get? b = some o := fun b o e => by rw [← e4]; exact pushCells_keeps _ _ _ _ (Heap.get?_push_of_some _ e)
  have I5 : Inv (hotB X p { s2 with heap := h3 } H3 sc ce fp) [] (wipe σ (own.map (·.2))) H3 s4 := by
    obtain ⟨g1, g2, g3, g4⟩ := pin_stk hp I3
    have I4' : Inv (X.blk { s2 with heap := h3 } H3 sc ce fp) [] (wipe σ (own.map (·.2))) H3 s4 := by rw [← eC, ← e4]; exact I4
    refine (I4'.pins_of (pins' := [p]) fun r hr => ?_).toTry (fun _ _ => False)
    obtain rfl : r = p := by simpa using hr
    exact ⟨up4 _ _ g1, g2, by show r.1 ≠ ce.locals; rw [cL]; exact Nat.ne_of_lt (Heap.lt_size g1), g3, g4⟩
  have hotX : HotC (hotB X p { s2 with heap := h3 } H3 sc ce fp) := ⟨p, hot, List.mem_cons_self⟩
  have st4 := T.keep _ _ _ st3 fun b _ o e => up4 b o e
  have fpB : ∀ {σ' : L2.St} {H' : Hp} {s' : Shared}, Inv (hotB X p { s2 with heap := h3 } H3 sc ce fp) [] σ' H' s' → (∀ b ∈ fp, H' b = none) → ∀ b ∈ fp, FpOk (hotB X p { s2 with heap := h3 } H3 sc ce fp) [] H' b := fun {σ' H' s'} J hn b hb =>
    ⟨hn b hb, (J.ok.exf b hb).1, J.ok.exfs b hb, .inl hb, (J.ok.exf b hb).2, fun r hr => by
      obtain rfl : r = p := by simpa using (show r ∈ [p] ++ ([] : List (Addr × Obj)) from hr)
      exact (f3 b hb).1.2.2.2.2.2 r (List.mem_append_left _ hp)⟩
  rw [e4]
  have loop : codeAny (model X.prog X.w) X.A (.compLoop (.ListComp elt [⟨tg, iter, ifs, 0⟩] sc pos) 0 (.ref it) (.ref D) ce) (compPost (model X.prog X.w) X.A X.xe none (EP X pins σ Q) (.ref D) h3.objs.size) s4 := by
    refine compLoop_any (fun n s' => ∃ i H', Inv (hotB X p { s2 with heap := h3 } H3 sc ce fp) [] (wipe σ (own.map (·.2))) H' s' ∧ tn i s'.heap ∧ (∀ b ∈ fp, H' b = none) ∧ W i n H') ?_ m0 ⟨0, H3, I5, st4, fun b hb => (f3 b hb).1.1, w0⟩
    rintro n s5 ⟨i, H5, J5, st5, n5, w5⟩
    rcases turn i n H5 w5 with ⟨stop, qq⟩ | ⟨go, Nx, hNx, step⟩
    · refine thnF (T.done (hotB X p { s2 with heap := h3 } H3 sc ce fp) rfl rfl rfl hotX i [] s5 _ H5 (fun _ _ => False) J5 (fpB J5 n5) st5 stop) fun r s6 ⟨hr, J6⟩ => ?_
      subst hr
      have I7 : Inv X pins σ H5 s6 := I3.call' (ch := fp) J6.os J6.base J6.hok J6.bare fun b hb => by
        obtain ⟨_, z1, _, z2, z3, z4⟩ := (f3 b hb).1
        exact ⟨z2, z1, z3, z4⟩
      have nC : H5 h3.objs.size = none := cL ▸ J6.free
      obtain ⟨m, hn, _⟩ := J6.loc
      have hn : s6.heap.Ns h3.objs.size m := cL ▸ hn
      refine ⟨m, hn, fun h'' sb => ?_⟩
      obtain ⟨y0, y1, y2, y3, y4, y5⟩ := I3.fpOk (b := h3.objs.size) (Nat.le_refl _) nC
      exact ⟨.ref D, H5, I7.turned (t' := s6.toks) (fun b o hb e => (sb.2 b hb).trans e) y0 y1 y3 y4 y5, rfl, qq⟩
    · refine thnF (T.item (hotB X p { s2 with heap := h3 } H3 sc ce fp) rfl rfl rfl hotX i [] s5 _ H5 (fun _ _ => False) J5 (fpB J5 n5) st5 go) fun r s6 ⟨u, hr, h6⟩ => ?_
      subst hr
      refine thnF h6 fun _ s7 ⟨x, H7, J7, r7, y7, st7, n7⟩ => thnF (pg.run _ s7 _ H7 x u _ (J7.pinned (fpB J7 n7) (T.obj _ _ st7)) r7 (step x H7 y7)) fun _ s8 ⟨σ8, H8, J8, hw8, q8⟩ => thnF (pt.run _ s8 σ8 H8 _ J8 q8) fun b s9 ⟨H9, J9, q9⟩ => ?_
      have fin : ∀ {s' : Shared} {H' : Hp}, Inv (hotB X p { s2 with heap := h3 } H3 sc ce fp) ([] ++ pinsAt fp s7.heap) σ8 H' s' → Nx H' → ∃ m, m < n ∧ ∃ i H', Inv (hotB X p { s2 with heap := h3 } H3 sc ce fp) [] (wipe σ (own.map (·.2))) H' s' ∧ tn i s'.heap ∧ (∀ b ∈ fp, H' b = none) ∧ W i m H' := fun {s' H'} J' nx => by
        obtain ⟨m', lt', w'⟩ := hNx H' nx
        have at_ : ∀ b ∈ fp, ∀ o, s7.heap.get? b = some o → s'.heap.get? b = some o ∧ H' b = none := fun b hb o e => by
          obtain ⟨z1, z2, _⟩ := J'.pin (b, o) (List.mem_append_right _ (List.mem_append_right _ (mem_pinsAt hb e)))
          exact ⟨z1, z2⟩
        refine ⟨m', lt', i + 1, H', (J'.unpinned (pins := [])).weak (by rw [← hw8, wipe_length]) (fun j v e => ?_), T.keep _ _ _ st7 fun b hb o e => (at_ b hb o e).1, fun b hb => ?_, w'⟩
        · rw [← hw8] at e
          exact (wipe_some e).1
        · obtain ⟨o, e, _⟩ := T.obj _ _ st7 b hb
          exact (at_ b hb o e).2
      cases b with
      | false => exact fin J9 q9
      | true => exact thnF (pe.run _ s9 σ8 H9 _ J9 q9) fun z s10 ⟨yv, H10, J10, r10, acc, hD10, hz10, nx⟩ => app_ok (X := hotB X p { s2 with heap := h3 } H3 sc ce fp) J10 hD10 hz10 r10 fun s11 J11 => fin J11 nx
  exact codeAny_compStart_list loop (T.self X.A 0 _ _ _ st4 loop)
end
end PD
namespace PD
open PySem PySem.Spec PyProof.Rows L2 RZ HotX L2H

/-! ### a def called with the exception that is handled -/
/-- what is wanted may speak of the exception's object -/
abbrev SpP := Addr × Obj → Sp
structure FnP (P : Program) (w : World) (K : PySem.W.Frag) (mg : Str → Option Value) (base : Heap) (k : Nat) (f : Addr) (fd : FuncData) (ps : List Str) (sp : SpP) : Prop where
  len : ∀ p vs H Q E, sp p vs H Q E → vs.length = ps.length
  run : ∀ (A : Around) (outer : List Env) (s : Shared) (H : Hp) (args : Args) (us : List Value) (vs : List V) (Q : VK) (E : XK) (p : Addr × Obj), RoomH k A → Hot1 A p → PinOk outer H s p → Env0 P w K mg base A outer s H → BindsTo s fd args (ps.zip us) → Vals vs us → sp p vs H Q E →
    codeAny (model P w) A (.call (.ref f) args) (CR CX0 outer P w H s Q E) s
theorem fnp_of {P : Program} {w : World} {K : PySem.W.Frag} {mg : Str → Option Value} {base : Heap} {k : Nat} {f : Addr} {name qual : Str} {params : Arguments} {body : List Stmt} {sc : Scope} {dV kV doc pm cdv ct oc : Value} {an od : Option Addr} {osl : Array (Option Value)} {N ps : List Str} {sp : SpP}
    (lk : K.lookup f = some ⟨oc, od, .func (PySem.W.fnOf name qual params body sc dV kV doc pm an cdv ct), osl⟩) (hcd : PySem.W.codeIn K cdv qual = true) (S : FnScope N ps sc) (len : ∀ p vs H Q E, sp p vs H Q E → vs.length = ps.length)
    (hbody : ∀ (A : Around) (outer : List Env) (s : Shared) (H : Hp) (vs : List V) (Q : VK) (E : XK) (p : Addr × Obj), Hot1 A p → sp p vs H Q E → ∃ t, PSs (cxH CX0 P w K mg base N qual sc f cdv A outer s H E p) body t ∧ t { nx := fun _ H' => Q .non H', rt := Q } (L2.start N vs) H) :
    FnP P w K mg base (k + 1) f (PySem.W.fnOf name qual params body sc dV kV doc pm an cdv ct) ps sp where
  len := len
  run := fun A outer s H args us vs Q E p hr hot pin e0 hb r hsp => by
    have stays := e0.mod.kin.keeps fun b o e => (e0.bs b o e).1
    have kinds : ∀ y ∈ ps.zip us, sc.names.lookup y.1 = some .local ∨ (sc.names.lookup y.1 = some .cell ∧ ((cellsFrom (s.heap.objs.size + 1) sc.names []).lookup y.1).isSome = true) := fun y hy =>
      (S.par y.1 (List.of_mem_zip (a := y.1) (b := y.2) hy).1).elim .inl fun q => .inr ⟨q, PySem.W.cellsFrom_some _ _ _ (.inl q)⟩
    refine codeAny_call_function hr.depth (stays _ _ lk) rfl S.co S.gen rfl (PySem.W.codeRec_of stays hcd) (hb _ _ _ _ (wpAny_newFunctionEnv_cells S.kind kinds fun env he s1 x => ?_))
    subst he
    obtain ⟨t, ht, hq⟩ := hbody A outer s H vs Q E p hot hsp
    refine ⟨(e0.mod.nolimit.keeps fun b o e => (e0.bs b o e).1).keeps x.toInCall.keep, codeAny_func (wpAny_mono (ht.run [] s1 _ H _ (inv_startH S pin e0 (len _ _ _ _ _ hsp) r x) hq) (fun fl s' hs => ?_) fun _ _ z => z)⟩
    match fl, hs with
    | .ret u, ⟨v, σ', H', J, rv, q⟩ => exact ⟨v, H', J.os, J.bare, J.base, J.hok, rv, q⟩
    | .next, ⟨σ', H', J, q⟩ => exact ⟨V.non, H', J.os, J.bare, J.base, J.hok, rfl, q⟩
    | .brk, ⟨_, _, _, q⟩ => exact q.elim
    | .cont, ⟨_, _, _, q⟩ => exact q.elim
section
variable {X : Cx} {k : Nat} {f D : Addr} {fd : FuncData} {ps : List Str} {sp : SpP} {x : Str} {q pos : Pos} {e : Expr} {es : List Expr} {t : TA} {p : Addr × Obj}
theorem pe_callP (F : FnP X.prog X.w X.K X.mg X.base k f fd ps sp) (hr : RoomH k X.A) (hot : Hot1 X.A p) (hp : p ∈ X.pn) (hg : Gl X x) (hm : X.mg x = some (.ref f)) (hk : PySem.W.keepIn X.K (.ref f) = true) (hb : Binds X.K fd ps []) (ha : PA X (e :: es) t) (hdb : (x == ("__debug__" : Str)) = false := by decide)
    (he : starEach (e :: es) X.env = (false, eval e X.env) :: starEach es X.env := by rfl) (hpl : (backTo pos (starEach es X.env)).any (·.1) = false := by rfl) : PE X (.Call (.Name x q) (e :: es) [] pos) (fun σ H Q => t σ H fun vs H1 => sp p vs H1 Q fun _ _ _ => False) := by
  refine ⟨fun pins s σ H Q I h => wpAny_Call_Name_kw (ld_glob I hg hm ?_ hdb)⟩
  refine PySem.W.callWith_K (h₀ := X.base) I.ok.mod.kin hk (thn (ha.run pos pins s σ H _ I h) fun us s1 ⟨vs, H1, I1, r, z⟩ => ⟨I1.kIn, ?_⟩) he hpl
  have hl : us.length = ps.length := r.length.symm.trans (F.len _ _ _ _ _ z)
  have b := hb s1 us I1.kIn (by rw [List.append_nil]; exact hl)
  rw [List.append_nil] at b
  obtain ⟨g1, g2, g3, g4⟩ := pin_stk hp I1
  refine wpAny_call (codeAny_mono (F.run X.A X.stack s1 H1 ⟨us, []⟩ us vs Q (fun _ _ _ => False) p hr hot ⟨g1, g2, g3, g4⟩ I1.env0 b r z) fun rr s' hq => ?_)
  match rr, hq with
  | .ok (.ret u), hq => exact I1.after hq
/-- isinstance(e, C), e the exception that is handled -/
theorem pe_isP {n : Str} {cv : Value} {b : Bool} {i : Nat} {v : V} {p1 p2 p3 p4 : Pos} {y : Str} (hp : p ∈ X.pn) (C : ExcC X.K D) (hz : Zc (.ref D) none p.2) (hf : ∃ vs, p.2.data = .fields vs) (hy : X.N[i]? = some y) (hv : Vis X.env.scope y) (hgI : Gl X "isinstance") (hmI : X.mg "isinstance" = none) (hg : Gl X n) (hm : X.mg n = some cv) (rv : RelV v cv) (uq : ∀ u, RelV v u → u = cv)
    (hk : PySem.W.kitOne X.K (.ref D) cv = some b) (hd : (n == ("__debug__" : Str)) = false := by decide) (hdy : (y == ("__debug__" : Str)) = false := by decide) (hcy : (y == ("__classdict__" : Str)) = false := by decide) :
    PE X (.Call (.Name "isinstance" p1) [.Name y p2, .Name n p3] [] p4) (fun σ H Q => σ[i]? = some (some (.ref p.1)) ∧ Q (.bl b) H) := by
  have call : CallR X (.builtin "isinstance") (fun xs H Q => xs = [.ref p.1, v] ∧ Q (.bl b) H) := by
    rintro pins s σ H xs us Q I r ⟨rfl, z⟩
    obtain ⟨u1, u2, rfl, ru, rw_⟩ := vals2 r
    cases ru
    cases uq _ rw_
    have g1 := (I.pin p (List.mem_append_left _ hp)).1
    obtain ⟨vs, hv⟩ := hf
    obtain ⟨a, oc, od, oda, osl⟩ := p
    obtain ⟨rfl, rfl⟩ := hz
    cases (show oda = _ from hv)
    exact PySem.W.kia_one (PySem.W.handS_kitx_exc C.hg C.hk C.hs C.hd C.ha C.hn C.ht C.hm) I.kIn (show PySem.W.InstAt s.heap a _ D none from ⟨g1, rfl, rfl, trivial⟩) hk (fun z => nomatch z) fun tk => ⟨.bl b, H, I.kept (t' := tk) fun _ _ z => z, rfl, z⟩
  refine PE.imp (pe_callB call hgI hmI boot_isinstance (pa_cons (pe_var hy hv hdy hcy) (pa_cons (pe_glob hg hm rv hd) pa_nil))) fun σ H Q ⟨h1, h2⟩ => ⟨_, h1, rfl, h2⟩
end
/-! ### the words whose flag is true -/
def selF (x : Str × Bool) : Option Str := if x.2 then some x.1 else none
def selS (ws : List Str) (bs : List Bool) : List Str := (ws.zip bs).filterMap selF
theorem words_lc {K : PySem.W.Frag} {H : Hp} {ws : List Str} {bs : List Bool} {a b : Addr} {x0 : V} {Q : VK} (hl : ws.length = bs.length) (hz : ws.length ≤ 1000) (ha : H a = some (.lst (ws.map V.str))) (hb : H b = some (.lst (bs.map V.bl)))
    (q : ∀ D H', Same H H' → H' D = some (.lst ((selS ws bs).map V.str)) → Q (.ref D) H') :
    tLc (iZipH K (tCons (tVar 2) (tCons (tVar 1) tNil))) (gTup K 2 (gCons (gName 3) (gCons (gName 4) gNil))) (tB (tVar 4)) (tVar 3) [3, 4] [some x0, some (.ref b), some (.ref a), none, none] H Q := by
  have hz' : (sizeLine : Nat) = 16777216 := sizeLine_eq
  refine ⟨_, rfl, _, rfl, a, b, _, _, rfl, .inl (.inl ha), .inl (.inl hb), fun D nD => ?_⟩
  have up0 : Same H (upd H D (.lst [])) := fun c o e => by rw [upd_ne (ne_of_none e nD)]; exact e
  refine ⟨fun i m H' => m = ws.length - i ∧ i ≤ ws.length ∧ Same H H' ∧ ∃ acc : List Str, acc = ((ws.zip bs).take i).filterMap selF ∧ H' D = some (.lst (acc.map V.str)), ⟨_, rfl, Nat.zero_le _, up0, [], rfl, upd_same⟩, ?_⟩
  rintro i m H' ⟨rfl, hi, sm, acc, hacc, hD⟩
  have lacc : acc.length ≤ ws.length := by
    rw [hacc]
    refine Nat.le_trans (List.length_filterMap_le _ _) ?_
    rw [List.length_take, List.length_zip]
    omega
  have s1 : SqL K H' a (ws.map V.str) := .inl (.inl (sm _ _ ha))
  have s2 : SqL K H' b (bs.map V.bl) := .inl (.inl (sm _ _ hb))
  by_cases hlt : i < ws.length
  · refine .inr ⟨⟨s1, s2, by rw [List.length_map]; exact hlt, by rw [List.length_map]; omega⟩, fun H2 => Same H H2 ∧ ∃ acc : List Str, acc = ((ws.zip bs).take (i + 1)).filterMap selF ∧ H2 D = some (.lst (acc.map V.str)), fun H2 h => ⟨_, by omega, rfl, hlt, h⟩, ?_⟩
    rintro v H2 ⟨T, x, y, rfl, nT, rfl, hx, hy⟩
    rw [List.getElem?_map] at hx hy
    obtain ⟨w, hw, rfl⟩ := Option.map_eq_some_iff.mp hx
    obtain ⟨c, hc, rfl⟩ := Option.map_eq_some_iff.mp hy
    have up : Same H' (upd H' T (.tup [.str w, .bl c])) := fun c o e => by rw [upd_ne (ne_of_none e nT)]; exact e
    have nx : ((ws.zip bs).take (i + 1)).filterMap selF = acc ++ (if c then [w] else []) := by
      rw [List.take_add_one, show (ws.zip bs)[i]? = some (w, c) from List.getElem?_zip_eq_some.mpr ⟨hw, hc⟩, List.filterMap_append, ← hacc]
      cases c <;> rfl
    refine ⟨T, [.str w, .bl c], rfl, .inl (.inl upd_same), rfl, ⟨_, _, rfl, ⟨_, _, rfl, ⟨rfl, ⟨rfl, ⟨.bl c, rfl, c, rfl, ?_⟩⟩⟩⟩⟩⟩
    cases c with
    | false => exact ⟨sm.trans up, acc, by rw [nx]; exact (List.append_nil _).symm, up _ _ hD⟩
    | true =>
      refine ⟨.str w, rfl, acc.map V.str, up _ _ hD, by rw [List.length_map]; omega, fun c o e => ?_, acc ++ [w], nx.symm, by rw [upd_same, List.map_append]; rfl⟩
      rw [upd_ne (by rintro rfl; rw [nD] at e; cases e)]
      exact up _ _ (sm _ _ e)
  · have ei : i = ws.length := by omega
    have full : acc = selS ws bs := by
      rw [hacc, List.take_of_length_le (by rw [List.length_zip]; omega)]
      rfl
    exact .inl ⟨⟨s1, s2, by rw [List.length_map]; exact ei, by rw [List.length_map]; omega⟩, q D H' sm (full ▸ hD)⟩
theorem PSs.of_cx {X Y : Cx} {b : List Stmt} {t : TS} (e : X = Y) (h : PSs Y b t) : PSs X b t := e ▸ h
end PD
namespace PD
open PySem PySem.Spec PyProof.Rows L2 RZ HotX L2H

/-! ### try: .. except X as e -/
theorem Rel.blank {K : KT} {c : C0} {ρ : Rho} {B : Bag} {σ σ2 : L2.St} {H F : Hp} {n : Nat} (R : Rel K c ρ B σ H F) (h : n = σ2.length) : Rel K c (List.replicate n .u) B σ2 H F := by
  have no : ∀ (i : Nat) (s : Sl), (List.replicate n Sl.u)[i]? = some s → s = .u := fun i s h => by
    rw [List.getElem?_replicate] at h
    split at h
    · exact (Option.some.inj h).symm
    · cases h
  exact ⟨by rw [List.length_replicate]; exact h, R.fr, R.st, R.tab, R.gr, R.dj, R.sub, R.bag, fun i x h => (nomatch no i _ h), fun i ct h => (nomatch no i _ h), fun i j ct ct' p h => (nomatch no i _ h)⟩
theorem takes_len {X : Cx} {W : WX} (tk : L2N.Takes X W) : L2N.Takes X (fun cls d σ H => σ.length = X.N.length → W cls d σ H) := fun u s' ⟨a, B, sI, pins, σ, H, cls, d, e, I, nb, up, sky, na, os, ag, w⟩ =>
  tk u s' ⟨a, B, sI, pins, σ, H, cls, d, e, I, nb, up, sky, na, os, ag, w I.len⟩
theorem At.tr {g : G} {X : Cx} (hX : At g X) {pn : List (Addr × Obj)} {xe : Value → Shared → Prop} (po : PassesOwn (model X.prog X.w) X.A X.env xe) : At g (X.tr pn xe) :=
  ⟨hX.hP, hX.hw, hX.hK, hX.hm, hX.hb, hX.hN, hX.hs, hX.nd, hX.calm, hX.room, hX.cell, po, hX.cls⟩
/-- the suite as a whole is given, its reading too -/
theorem ps_tryX {g : G} {X : Cx} {ρ : Rho} {B B1 : Bag} {E : En} {ie : Nat} {x n : Str} {c : Value} {cls : Value} {body suite : List Stmt} {b₀ : Stmt} {np pos pos' : Pos} {ts : Addr → Value → Option Addr → TS} (hX : At g X) (hs : X.stack = X.env :: X.outer) (hf : X.env.frame = some X.env.locals)
    (hi : g.N[ie]? = some n) (hln : g.sc.names.lookup n = some .local) (hg : Glb g x) (hdb : (x == ("__debug__" : Str)) = false) (hm : g.T.mg x = some c) (hex : PySem.W.exmOne g.T.K.fr cls c = some true) (hb : ExsX g body ρ B cls B1)
    (hsu : ∀ (a : Addr) (oe : Obj) (cls : Value) (d : Option Addr) (pn : List (Addr × Obj)), L2N.Zn cls d oe → (∃ vs, oe.data = .fields vs) → PSs (X.suite a ((a, oe) :: pn)) (b₀ :: suite) (ts a cls d))
    (ht : ∀ (cc : C0) (D : Ends) (σ : L2.St) (H F : Hp) (a : Addr), Rel g.T.K cc (List.replicate g.N.length .u) B1 (σ.set ie (some (.ref a))) H F → σ.length = g.N.length → H a = none → GoesTo g.T.K cc F E.nx D.nx → RetsTo g.T.K cc F E.rt D.rt → GoesTo g.T.K cc F E.bk D.bk → GoesTo g.T.K cc F E.ct D.ct →
      ts a cls none { nx := fun σ' H' => D.nx (σ'.set ie none) H', rt := D.rt, bk := fun σ' H' => D.bk (σ'.set ie none) H', ct := fun σ' H' => D.ct (σ'.set ie none) H' } (σ.set ie (some (.ref a))) H) :
    PS X (.Try body [.ExceptHandler (some (.Name x np)) (some n) (b₀ :: suite) pos'] [] [] pos) (tEx g.T.K ρ B E) := by
  have nd : X.N.Nodup := by rw [hX.hN]; exact hX.nd
  have tk0 : L2N.Takes X (fun _ _ _ _ => False) := fun u s' ⟨_, _, _, _, _, _, _, _, _, _, _, _, _, _, _, _, w⟩ => w.elim
  refine PS.imp (L2N.ps_try_as (tb := fun W _ σ H => tX g.T.K ρ B cls B1 (fun cls d σ H => σ.length = X.N.length → W cls d σ H) σ H) hs hf nd (by rw [hX.hN]; exact hi) (by show X.env.scope.names.lookup n = _; rw [hX.hs]; exact hln) ⟨hg.at hX, hdb, .inl (by rw [hX.hm]; exact hm)⟩ tk0 (fun W pn xe tk po => ?_) hsu) fun D σ H ⟨cc, F, R, q1, q2, q3, q4⟩ => ?_
  · exact hb.h (X.tr pn xe) _ (hX.tr po) (takes_len tk)
  · refine ⟨cc, F, R, fun ρ' σ' H' F' R' e' hl => ⟨true, by rw [hX.hK]; exact hex, fun _ a na => ?_, fun z => nomatch z⟩⟩
    have hl' : σ'.length = g.N.length := by rw [hl, hX.hN]
    exact ht cc D σ' H' F' a (R'.blank (by rw [List.length_set]; exact hl'.symm)) hl' na (q1.mono e' fun _ _ z => z) (q2.mono e' fun _ _ z => z) (q3.mono e' fun _ _ z => z) (q4.mono e' fun _ _ z => z)
/-- as fn_ok, the body with its stack -/
theorem fn_okS {T : Top} {k : Nat} {x qual : Str} {st : Stmt} {f : Addr} {fd : FuncData} {N ps : List Str} {R : Con} (F : Fun T.K x qual st f fd) (S : FnScope N ps (defScope st)) (hm : T.mg x = some (.ref f)) (hb : Binds T.K fd ps [])
    (len : ∀ ds B r B', R ds B r B' → ds.length = ps.length)
    (body : ∀ ds B r B', R ds B r B' → ∀ X, At (fnG T N st k) X → X.stack = X.env :: X.outer → X.env.frame = some X.env.locals → PSs X (defBody st) (tEx T.K (startR N ds) B { nx := fun _ _ => False, rt := fun r' B2 => r' = r ∧ B2 = B' })) : HasFn T (k + 1) x R := by
  obtain ⟨oc, od, kV, doc, pm, an, cdv, ct, osl, hfd, lk, hcd⟩ := F.ex
  subst hfd
  refine ⟨f, _, ps, hm, F.kp, hb, fn_of lk hcd S (fun vs H Q E h => ?_) fun A outer s H vs Q E hr h => ?_⟩
  · obtain ⟨β, Fz, ds, B, r, B', hR, ha, _⟩ := h
    rw [← ha.length]
    exact len ds B r B' hR
  · obtain ⟨β, Fz, ds, B, r, B', hR, ha, hsub, htab, hbag, q⟩ := h
    have hl := ha.length
    have hx : At (fnG T N st k) (cxOf CX0 T.P T.w T.K T.mg T.base N qual (defScope st) f cdv A outer s H E) :=
      ⟨rfl, rfl, rfl, rfl, rfl, rfl, rfl, S.nd, rfl, hr, fun _ _ => rfl, passes_of rfl, fun _ h => (nomatch h)⟩
    refine ⟨_, body ds B r B' hR _ hx rfl rfl, ⟨β, H, Fz⟩, Fz, ?_, fun _ _ _ _ _ _ _ z => z.elim, fun ρ' B2 σ' H' F' r' v R' e' ok ⟨z1, z2⟩ => ?_, fun _ _ _ _ _ _ _ z => z.elim, fun _ _ _ _ _ _ _ z => z.elim⟩
    · refine ⟨?_, fun b o _ _ h => h, fun b h => h, htab, Same.refl Fz, fun b _ h => h, hsub, fun a h => ⟨(hbag a h).1, (by show H a ≠ none; rw [(hbag a h).1]; exact fun z => nomatch z), (hbag a h).2⟩, fun i d h => ?_, fun i ct h => ?_, fun i j ct ct' p h => ?_⟩
      · unfold startR L2.start
        rw [List.length_append, List.length_append, List.length_map, List.length_map, List.length_replicate, List.length_replicate, hl]
      · rcases startR_get h with z | ⟨d', z, hd⟩
        · cases z
        · cases z
          obtain ⟨v, hv, hrep⟩ := ha.get hd
          refine ⟨v, ?_, hrep⟩
          unfold L2.start
          rw [List.getElem?_append_left (by rw [List.length_map]; exact (List.getElem?_eq_some_iff.mp hv).1), List.getElem?_map, hv]
          rfl
      · rcases startR_get h with z | ⟨d', z, _⟩ <;> cases z
      · rcases startR_get h with z | ⟨d', z, _⟩ <;> cases z
    · subst z1 z2
      exact q v H' F' R'.fr R'.st R'.tab e' (fun b h1 h2 => R'.dj b h1 h2) R'.sub (fun a h => (R'.bag a h).1) ok
section
variable {g : G} {ρ : Rho} {B B1 : Bag} {e : Expr} {pos p : Pos} {n : Str} {cls : Value}
theorem evx_tup2 {m : Str} {j k} (h : EvX g e ρ B cls B1) (hs : ∀ env : Env, starEach [.Constant (.str m) j p, e] env = (false, eval (.Constant (.str m) j p) env) :: starEach [e] env := by intro _; rfl) (he : ∀ env : Env, starEach [e] env = (false, eval e env) :: starEach [] env := by intro _; rfl) :
    EvX g (.Tuple [.Constant (.str m) j p, e] k pos) ρ B cls B1 := ⟨fun X W hX tk => PE.imp (pe_tup (pa_cons pe_str (pa_cons (h.h X W hX tk) pa_nil (he X.env)) (hs X.env))) fun σ H Q q => q⟩
theorem exx_set {i : Nat} {py spos : Pos} (s : St1 g i n) (h : EvX g e ρ B cls B1) (hs : ∀ env : Env, swapsWith e (some (.Name n py)) spos.line env = pure false := by intro _; rfl) : ExX g (.Assign [.Name n py] e spos) ρ B cls B1 :=
  ⟨fun X W hX tk => PS.imp (ps_set (i := i) (by rw [hX.hN]; exact hX.nd) (by rw [hX.hN]; exact s.ix) (by rw [hX.hs]; exact s.loc) (h.h X W hX tk) (hs X.env) (s.fn.elim (fun h => .inl (hX.cell n h)) fun h => .inr (by rw [hX.hs]; exact h))) fun D σ H q => q⟩
theorem pss_consE {X : Cx} {st : Stmt} {sts : List Stmt} {E : En} (h : PS X st (tEx g.T.K ρ B { E with nx := fun ρ' B' => PSs X sts (tEx g.T.K ρ' B' E) })) : PSs X (st :: sts) (tEx g.T.K ρ B E) := by
  refine PSs.imp (pss_cons h (u := fun D σ H => ∃ ρ' B', PSs X sts (tEx g.T.K ρ' B' E) ∧ tEx g.T.K ρ' B' E D σ H) ⟨fun pins s σ H D I ⟨ρ', B', he, q⟩ => he.run pins s σ H D I q⟩) fun D σ H h => ?_
  exact tEx_seq h (fun _ _ _ z => z) fun ρ' B' p σ H q => ⟨ρ', B', p, q⟩
end
end PD
namespace PD
open PySem PySem.Spec PyProof.Rows L2 RZ

/-! ### a frame's own cells, tracked while a call runs -/
structure Liv (X : Cx) (σ : L2.St) (cl : List (Str × Addr)) (CH : Hp) : Prop where
  at_ : ∀ b ∈ cl.map (·.2), ∃ (x : Str) (v : V) (i : Nat), X.env.cells.lookup x = some b ∧ X.N[i]? = some x ∧ X.env.scope.names.lookup x = some .cell ∧ σ[i]? = some (some v) ∧ CH b = some (CellO b v) ∧ X.s_0.heap.objs.size ≤ b
section
variable {X : Cx} {pins : List (Addr × Obj)} {σ : L2.St} {H H' CH : Hp} {s s' : Shared} {cl : List (Str × Addr)}
theorem Liv.ci (L : Liv X σ cl CH) : CellsIn cl CH := fun b hb => let ⟨_, v, _, _, _, _, _, h, _⟩ := L.at_ b hb; ⟨v, h⟩
theorem Liv.none_ (L : Liv X σ cl CH) (I : Inv X pins σ H s) : ∀ b ∈ cl.map (·.2), H b = none := fun b hb => let ⟨x, _, _, h, _⟩ := L.at_ b hb; I.freeC x b h
theorem Liv.big (L : Liv X σ cl CH) {b : Addr} (h : b < X.s_0.heap.objs.size) : b ∉ cl.map (·.2) := fun hb => by
  obtain ⟨_, _, _, _, _, _, _, _, z⟩ := L.at_ b hb
  exact absurd (Nat.lt_of_lt_of_le h z) (Nat.lt_irrefl _)
theorem Liv.locals (L : Liv X σ cl CH) (I : Inv X pins σ H s) : X.env.locals ∉ cl.map (·.2) := fun hb => by
  obtain ⟨x, _, _, h, _⟩ := L.at_ _ hb
  exact I.cne x _ h rfl
theorem Liv.stk (L : Liv X σ cl CH) (I : Inv X pins σ H s) {b : Addr} (h : b ∈ frs X.stack) : b ∉ cl.map (·.2) := by
  rcases List.mem_cons.mp (I.stkSub b h) with rfl | h
  · exact L.locals I
  · obtain ⟨_, o, ho, _⟩ := I.ok.funs.mem h
    exact L.big (Heap.lt_size ho)
theorem Liv.holds (L : Liv X σ cl CH) (I : Inv X pins σ H s) : ∀ c v, c ∈ cl.map (·.2) → CH c = some (CellO c v) → ∃ u, s.heap.IsCell c (some u) ∧ RelV v u := fun c v hc hv => by
  obtain ⟨x, v', i, h1, h2, h3, h4, h5, _⟩ := L.at_ c hc
  obtain ⟨m, _, hl⟩ := I.loc
  obtain ⟨u, r, l⟩ := hl i x v' h2 h4 (.inr (.inl h3))
  rcases l with ⟨k, _⟩ | ⟨_, c', e, z⟩
  · have k : X.env.scope.names.lookup x = some .local := k
    rw [h3] at k; cases k
  · rw [h1] at e; cases e
    rw [hv] at h5
    have : (fun h : Heap => ∃ u, h.IsCell c (some u) ∧ RelV v u) = fun h => ∃ u, h.IsCell c (some u) ∧ RelV v' u := by
      injection h5 with h5
      unfold CellO at h5
      injection h5
    have hh : (fun h : Heap => ∃ u, h.IsCell c (some u) ∧ RelV v u) s.heap := by rw [this]; exact ⟨u, z, r⟩
    exact hh
theorem Liv.hok (L : Liv X σ cl CH) (I : Inv X pins σ H s) : HOk X.prog X.w (plus cl CH H) s.heap := hok_plus L.ci I.hok (L.none_ I) (L.holds I)
theorem Liv.env0 (L : Liv X σ cl CH) (I : Inv X pins σ H s) : Env0 X.prog X.w X.K X.mg X.base X.A X.stack s (plus cl CH H) := by
  have e := I.env0
  refine ⟨e.frames, e.mod, fun b o h => ⟨(e.bs b o h).1, ?_⟩, e.bsz, e.funs, fun b hb => ?_, L.hok I, e.bare⟩
  · rw [plus_out (L.big (Nat.lt_of_lt_of_le (Heap.lt_size h) I.ok.bsz))]
    exact (e.bs b o h).2
  · rw [plus_out (L.stk I hb)]
    exact e.frf b hb
/-- behind the call -/
theorem Liv.after (nd : X.N.Nodup) (L : Liv X σ cl CH) (I : Inv X pins σ H s) (os : s'.os = s.os) (bare : AllBare s'.gens) (u : Un (frs X.stack) [] (plus cl CH H) H' s.heap s'.heap) (hok : HOk X.prog X.w H' s'.heap) (st : ∀ b ∈ cl.map (·.2), ∀ v, CH b = some (CellO b v) → H' b = some (CellO b v)) :
    Inv X pins σ (rmv cl H') s' := by
  have ci' : CellsIn cl H' := fun b hb => let ⟨v, hv⟩ := L.ci b hb; ⟨v, st b hb v hv⟩
  have s0C : ∀ b o, X.s_0.heap.get? b = some o → b ∉ cl.map (·.2) := fun b o e => L.big (Heap.lt_size e)
  have neL : ∀ b o, X.s_0.heap.get? b = some o → b ≠ X.env.locals := fun b o e => Nat.ne_of_lt (Nat.lt_of_lt_of_le (Heap.lt_size e) I.ok.above)
  have out : ∀ {b}, b ∉ cl.map (·.2) → plus cl CH H b = H b := fun h => plus_out h
  have stkN : ∀ {b}, b ≠ X.env.locals → b ∉ X.fs → b ∉ frs X.stack := fun h1 h2 z => (List.mem_cons.mp (I.stkSub _ z)).elim h1 h2
  have inC : ∀ {b o}, H b = some o → b ∉ cl.map (·.2) := fun {b o} e z => by rw [L.none_ I b z] at e; cases e
  -- an untracked object that is no cell of these
  have any : ∀ {b o}, s.heap.get? b = some o → H b = none → b ∉ cl.map (·.2) → ∃ sl, s'.heap.get? b = some { o with slots := sl } := fun {b o} e n nc => u.any e (by rw [out nc]; exact n) (by simp)
  have gone : ∀ {b o}, s.heap.get? b = some o → H b = none → b ∉ cl.map (·.2) → rmv cl H' b = none := fun {b o} e n nc => rmv_none (u.free b o e (by rw [out nc]; exact n) (by simp))
  have cellK : ∀ {x c}, X.env.cells.lookup x = some c → c ∉ cl.map (·.2) → ∀ v, s.heap.IsCell c v → s'.heap.IsCell c v := fun {x c} e nc v ⟨o, ho, hd⟩ => by
    obtain ⟨sl, q⟩ := any ho (I.freeC x c e) nc
    exact ⟨_, q, hd⟩
  obtain ⟨m, ⟨oL, es, ep, hL, rL⟩, hl⟩ := id I.loc
  obtain ⟨slL, hL'⟩ := any hL I.free (L.locals I)
  refine ⟨I.ok, os.trans I.os, bare, ⟨fun b o e n hb hx => ?_, fun b o e n hb hx => ?_, fun b o e n hx => ?_, fun b o e hx => ?_, fun b xs e => ?_, fun b o xs e => ?_, fun b ps e => ?_⟩, ⟨m, ⟨_, es, ep, hL', rL⟩, fun i x v e1 e2 e3 => ?_⟩, fun x c e => ?_, gone hL I.free (L.locals I), fun x c e => ?_, fun p hp => ?_, hok_rmv ci' hok, I.len⟩
  · exact u.keep b o (I.base.keep b o e n hb hx) (by rw [out (s0C b o e)]; exact I.base.free b o e n hx) (stkN (neL b o e) hb) (by simp)
  · obtain ⟨sl, e1⟩ := I.base.slot b o e n hb hx
    obtain ⟨sl2, e2⟩ := any e1 (I.base.free b o e n hx) (s0C b o e)
    exact ⟨sl2, e2⟩
  · obtain ⟨o', e1⟩ := I.base.there b o e hx
    exact gone e1 (I.base.free b o e n hx) (s0C b o e)
  · obtain ⟨o', e1⟩ := I.base.there b o e hx
    exact u.there b o' e1 (by simp)
  · have h := I.base.tups b xs e
    rw [rmv_out (inC h)]
    exact u.tups b xs (by rw [out (inC h)]; exact h)
  · have h := I.base.frzs b o xs e
    rw [rmv_out (inC h)]
    exact u.frzs b o xs (by rw [out (inC h)]; exact h)
  · obtain ⟨m1, h⟩ := I.base.tbls b ps e
    obtain ⟨m2, h2⟩ := u.tbls b _ (by rw [out (inC h)]; exact h)
    exact ⟨m1 ++ m2, by rw [rmv_out (inC h), h2, Array.append_assoc]⟩
  · obtain ⟨w, r, l⟩ := hl i x v e1 e2 e3
    rcases l with l | ⟨k, c, e, z⟩
    · exact ⟨w, r, .inl l⟩
    · by_cases hc : c ∈ cl.map (·.2)
      · obtain ⟨x', v', i', h1, h2, h3, h4, h5, _⟩ := L.at_ c hc
        obtain rfl := I.ok.inj _ _ _ e h1
        obtain ⟨w', hw', r'⟩ := cell_of hok (st c hc _ h5)
        have hi : i = i' := by
          by_cases hij : i = i'
          · exact hij
          · exfalso
            exact hij (nodup_ix nd e1 h2)
        subst hi
        rw [e2] at h4
        cases h4
        exact ⟨w', r', .inr ⟨k, c, e, hw'⟩⟩
      · exact ⟨w, r, .inr ⟨k, c, e, cellK e hc _ z⟩⟩
  · by_cases hc : c ∈ cl.map (·.2)
    · obtain ⟨v, hv⟩ := ci' c hc
      obtain ⟨w, hw, _⟩ := cell_of hok hv
      exact ⟨_, hw⟩
    · obtain ⟨v, z⟩ := I.cell x c e
      exact ⟨v, cellK e hc v z⟩
  · by_cases hc : c ∈ cl.map (·.2)
    · exact rmv_in hc
    · obtain ⟨v, o, ho, _⟩ := I.cell x c e
      exact gone ho (I.freeC x c e) hc
  · obtain ⟨e, n, ne, nf, d⟩ := I.pin p hp
    have nc : p.1 ∉ cl.map (·.2) := fun z => by
      obtain ⟨v, hv⟩ := L.ci _ z
      obtain ⟨w, ⟨o, ho, hd⟩, _⟩ := L.holds I _ v z hv
      rw [e] at ho; cases ho
      exact d _ hd
    exact ⟨u.keep _ _ e (by rw [out nc]; exact n) (stkN ne nf) (by simp), gone e n nc, ne, nf, d⟩
end
end PD
namespace PD
open PySem PySem.Spec PyProof.Rows L2 RZ

/-! ### a lambda made -/
theorem objLam {P : Program} {w : World} {H : Hp} {h : Heap} {f c' : Addr} {L : LamI} {cl : List (Str × Addr)} {pm ctv : Value} (e : h.get? f = some (PySem.W.kla_obj "<lambda>" L.qual L.params L.body L.scope cl pm c' ctv)) : ObjOk P w H h f (LamO f c' L cl) :=
  ⟨⟨pm, ctv, e⟩, ⟨_, e⟩, fun _ _ ⟨p, c, a⟩ st => ⟨p, c, st _ a⟩⟩
/-- the table has grown, a code object is new -/
theorem Rel.code {K : KT} {c : C0} {ρ : Rho} {B : Bag} {σ : L2.St} {H F : Hp} {P k : Addr} {q : Str} {ps : Array Value} {pos : Pos} (R : Rel K c ρ B σ H F) (hP : H P = some (.tbl ps)) (hq : (P, q) ∈ K.T) (hu : ∀ p ∈ K.T, p.1 = P → p.2 = q) (nk : H k = none) :
    Rel K c ρ B σ (upd (upd H P (.tbl (ps ++ #[rawInt pos.line, rawInt pos.col, .ref k]))) k (LamX.CodeO k q)) (upd F k (LamX.CodeO k q)) ∧ Same F (upd F k (LamX.CodeO k q)) := by
  have nF := R.F_none nk
  have e : Same F (upd F k (LamX.CodeO k q)) := fun b u h => by rw [upd_ne (ne_of_none h nF)]; exact h
  have hPk : P ≠ k := ne_of_none hP nk
  have noP : ∀ {b o}, H b = some o → (∀ ps, o ≠ .tbl ps) → b ≠ P := fun {b o} h n z => by
    rw [z, hP] at h
    exact n ps (Option.some.inj h).symm
  have at_ : ∀ {b o}, H b = some o → (∀ ps, o ≠ .tbl ps) → upd (upd H P (.tbl (ps ++ #[rawInt pos.line, rawInt pos.col, .ref k]))) k (LamX.CodeO k q) b = some o := fun {b o} h n => by
    rw [upd_ne (ne_of_none h nk), upd_ne (noP h n)]
    exact h
  have st : ∀ b, H b ≠ none → upd (upd H P (.tbl (ps ++ #[rawInt pos.line, rawInt pos.col, .ref k]))) k (LamX.CodeO k q) b ≠ none := fun b h => by
    by_cases h1 : b = k
    · rw [h1, upd_same]; exact fun z => nomatch z
    · rw [upd_ne h1]
      by_cases h2 : b = P
      · rw [h2, upd_same]; exact fun z => nomatch z
      · rw [upd_ne h2]; exact h
  obtain ⟨⟨ps0, t1, t2, t3⟩, tF⟩ := R.tab _ hq
  have t1 : H P = some (.tbl ps0) := t1
  rw [hP] at t1
  cases t1
  have FP : F P = none := tF
  refine ⟨⟨R.len, fun b o hb ho h => at_ (R.fr b o hb ho h) ho, fun b h => st b (R.st b h), fun p hp => ⟨?_, ?_⟩, R.gr.trans e, fun b h1 h2 => ?_, fun b o h => ?_, fun a ha => ⟨?_, (R.bag a ha).2⟩, fun i x h => let ⟨v, a1, a2⟩ := R.dat i x h; ⟨v, a1, a2.mono e⟩, fun i ct h => ?_, R.sep⟩, e⟩
  · by_cases hb : p.1 = P
    · rw [hu p hp hb, hb]
      have eL : (ps ++ #[rawInt pos.line, rawInt pos.col, .ref k]).toList = ps.toList ++ [rawInt pos.line, rawInt pos.col, .ref k] := by simp
      refine ⟨_, by rw [upd_ne hPk, upd_same], by rw [eL]; exact PySem.TriplesOk_snoc _ _ _ _ t2, fun p' cv hc => ?_⟩
      rw [eL] at hc
      rcases LamX.among_app _ t2 hc with z | z
      · obtain ⟨c0, a1, a2⟩ := t3 p' cv z
        exact ⟨c0, a1, e _ _ a2⟩
      · exact ⟨k, z, upd_same⟩
    · obtain ⟨ps', a1, a2, a3⟩ := (R.tab p hp).1
      exact ⟨ps', by rw [upd_ne (ne_of_none a1 nk), upd_ne hb]; exact a1, a2, fun p' cv hc => let ⟨c0, z1, z2⟩ := a3 p' cv hc; ⟨c0, z1, e _ _ z2⟩⟩
  · rw [upd_ne (R.tab.neN hp nk)]
    exact (R.tab p hp).2
  · rw [upd_ne fun z => h1 (by rw [z]; exact R.H0_none nk)]
    exact R.dj b h1 h2
  · by_cases hb : b = k
    · subst hb
      rw [upd_same] at h ⊢
      exact h
    · rw [upd_ne hb] at h ⊢
      rw [upd_ne]
      · exact R.sub b o h
      · rintro rfl
        rw [FP] at h; cases h
  · exact at_ (R.bag a ha).1 fun _ z => nomatch z
  · obtain ⟨p, hp, ⟨ho, h3, h4⟩, h5, h6⟩ := R.own i ct h
    refine ⟨p, hp, ⟨ho, at_ h3 (CtOk.nt h4).1, h4.mono e⟩, h5, ?_⟩
    rw [upd_ne (ne_of_none h3 nk)]
    exact h6
section
variable {g : G} {ρ : Rho} {B : Bag} {pos : Pos} {params : Arguments} {body : Expr} {scope : Scope}
theorem ev_lam {cl : List (Str × Addr)} {q : Str} {c P : Addr} (hcl : g.cl = some (cl, q, c)) (TB : LamX.TabB g.T.base g.T.mg c P) (hT : (P, q ++ "<lambda>") ∈ g.T.K.T) (hu : ∀ p ∈ g.T.K.T, p.1 = P → p.2 = q ++ "<lambda>") (L : LamX.LamS g.sc scope)
    (hdef : ∀ env : Env, defaultsOf params env = ([], []) := by intro _; rfl) : Ev g (.Lambda params body scope pos) ρ B (.lmv ⟨q ++ "<lambda>", params, body, scope⟩ (cloFrom cl scope.names [])) B := by
  refine ⟨fun X hX => ⟨fun pins s σ H Q I ⟨c0, F, R, qq⟩ => ?_⟩⟩
  obtain ⟨e1, e2, e3⟩ := hX.cls _ hcl
  have e1 : X.env.cells = cl := e1
  have e2 : X.env.qual = q := e2
  have e3 : X.env.code = .ref c := e3
  have free : ∀ y ∈ scope.names, y.2 = .free → ∃ c, X.env.cells.lookup y.1 = some c := fun y hy e => by
    have L' : LamX.LamS X.env.scope scope := by rw [hX.hs]; exact L
    exact L'.has I.ok y hy e
  have TB' : LamX.TabB X.base X.mg c P := by rw [hX.hb, hX.hm]; exact TB
  obtain ⟨⟨ps, hP, ht, ha⟩, hFP⟩ := R.tab _ hT
  have hP : H P = some (.tbl ps) := hP
  have getP : s.heap.get? P = some { cls := .none, data := .fields ps } := I.hok P _ hP
  refine PySem.W.kla_eval (hdef _) ?_
  cases hc : codeAmong pos ps.toList with
  | none =>
    refine PySem.W.kla_makeFunction (mg := X.mg) (c := c) (P := P) (ps := ps) (closure_ok free) I.ok.glob (I.mod.glob.keeps I.bk) e3 (TB'.code.keeps I.bk) getP ht hc TB'.gP (TB'.bm.keeps I.bk) fun c' ctv h' tk hx hge hlt hrec htb => ?_
    obtain ⟨c2, oc, vs, t, q2, hoc, hd, hv⟩ := hrec
    cases q2
    have nk : H c' = none := I.hok.fresh hge
    have I1 := LamX.inv_table (t' := tk) (q := X.env.qual ++ "<lambda>") (more := #[rawInt pos.line, rawInt pos.col, .ref c']) (h' := h') I hP hx htb hge ⟨oc, vs, t, hoc, hd, hv⟩
    rw [e2] at I1
    obtain ⟨R1, e1'⟩ := R.code (pos := pos) hP hT hu nk
    have I2 := I1.laid (t' := tk) (o := LamO h'.objs.size c' ⟨q ++ "<lambda>", params, body, scope⟩ (cloFrom cl scope.names [])) (h' := h'.push (PySem.W.kla_obj "<lambda>" (X.env.qual ++ "<lambda>") params body scope (cloFrom X.env.cells scope.names []) ((X.mg "__name__").getD .none) c' ctv)) (fun b u e => Heap.get?_push_of_some _ e) (Nat.le_refl _) (objLam (pm := (X.mg "__name__").getD .none) (ctv := ctv) (by rw [e1, e2]; exact Heap.get?_push_size _ rfl))
    have nf := I1.hok.fresh (show h'.objs.size ≤ h'.objs.size from Nat.le_refl _)
    obtain ⟨R2, e2'⟩ := R1.new (o := LamO h'.objs.size c' ⟨q ++ "<lambda>", params, body, scope⟩ (cloFrom cl scope.names [])) nf
    exact ⟨.ref h'.objs.size, _, I2, rfl, qq (.ref h'.objs.size) _ _ R2 (e1'.trans e2') (Rep.lmv upd_same (e2' _ _ upd_same)) apart_d⟩
  | some cv =>
    obtain ⟨c', e, hco⟩ := ha pos cv hc
    subst e
    refine PySem.W.kla_makeFunctionHit (mg := X.mg) (c := c) (P := P) (ps := ps) (closure_ok free) I.ok.glob (I.mod.glob.keeps I.bk) e3 (TB'.code.keeps I.bk) getP ht hc (TB'.bm.keeps I.bk) fun ctv h' tk hx hsz => ?_
    have nf : H h'.objs.size = none := I.hok.fresh hsz
    have I2 := I.laid (t' := tk) (o := LamO h'.objs.size c' ⟨q ++ "<lambda>", params, body, scope⟩ (cloFrom cl scope.names [])) (h' := h'.push (PySem.W.kla_obj "<lambda>" (X.env.qual ++ "<lambda>") params body scope (cloFrom X.env.cells scope.names []) ((X.mg "__name__").getD .none) c' ctv)) (fun b u e => Heap.get?_push_of_some _ (hx b u e)) hsz (objLam (pm := (X.mg "__name__").getD .none) (ctv := ctv) (by rw [e1, e2]; exact Heap.get?_push_size _ rfl))
    obtain ⟨R2, e2'⟩ := R.new (o := LamO h'.objs.size c' ⟨q ++ "<lambda>", params, body, scope⟩ (cloFrom cl scope.names [])) nf
    exact ⟨.ref h'.objs.size, _, I2, rfl, qq (.ref h'.objs.size) _ _ R2 e2' (Rep.lmv upd_same (e2' _ _ hco)) apart_d⟩
end
end PD
namespace PD
open PySem PySem.Spec PyProof.Rows L2 RZ

/-! ### lambdas over a frame's own cells, handed on -/
mutual
inductive Cv (cl : List (Str × Addr)) (lv : List (Str × D)) : D → D → Prop
  | same (x : D) : Cv cl lv x x
  | lam {L : LamI} {clL : List (Str × Addr)} {ns : List Str} {ds : List D} : (∀ p ∈ clL, cl.lookup p.1 = some p.2 ∧ ∃ x, lv.lookup p.1 = some x) → ns = clL.map (·.1) → ds = clL.map (fun p => (lv.lookup p.1).getD .non) → Cv cl lv (.lmv L clL) (.lam L ns ds)
  | lst {xs ys : List D} : CvAll cl lv xs ys → Cv cl lv (.lst xs) (.lst ys)
inductive CvAll (cl : List (Str × Addr)) (lv : List (Str × D)) : List D → List D → Prop
  | nil : CvAll cl lv [] []
  | cons {x y : D} {xs ys : List D} : Cv cl lv x y → CvAll cl lv xs ys → CvAll cl lv (x :: xs) (y :: ys)
end
theorem CvAll.same {cl : List (Str × Addr)} {lv : List (Str × D)} : ∀ xs : List D, CvAll cl lv xs xs
  | [] => .nil
  | x :: xs => .cons (.same x) (CvAll.same xs)
theorem CvAll.append {cl : List (Str × Addr)} {lv : List (Str × D)} : ∀ {xs ys xs' ys' : List D}, CvAll cl lv xs ys → CvAll cl lv xs' ys' → CvAll cl lv (xs ++ xs') (ys ++ ys')
  | _, _, _, _, .nil, h => h
  | _, _, _, _, .cons a b, h => .cons a (CvAll.append b h)
/-- the cells' values -/
structure Vals1 (K : PySem.W.Frag) (β : Option Addr) (cl : List (Str × Addr)) (lv : List (Str × D)) (F F' : Hp) (val : Str → V) : Prop where
  inj : ∀ x y c, cl.lookup x = some c → cl.lookup y = some c → x = y
  le : Same F F'
  at_ : ∀ n x, lv.lookup n = some x → ∀ a, cl.lookup n = some a → F' a = some (CellO a (val n)) ∧ Rep K β F x (val n)
section
variable {K : PySem.W.Frag} {β : Option Addr} {cl : List (Str × Addr)} {lv : List (Str × D)} {F F' : Hp} {val : Str → V}
theorem rep_caps (U : Vals1 K β cl lv F F' val) : ∀ {clL : List (Str × Addr)}, (∀ p ∈ clL, cl.lookup p.1 = some p.2 ∧ ∃ x, lv.lookup p.1 = some x) → RepAll K β F' (clL.map (fun p => (lv.lookup p.1).getD .non)) (clL.map fun p => val p.1)
  | [], _ => .nil
  | p :: r, h => by
    obtain ⟨h1, x, hx⟩ := h p List.mem_cons_self
    refine .cons ?_ (rep_caps U fun q hq => h q (List.mem_cons_of_mem _ hq))
    show Rep K β F' ((lv.lookup p.1).getD .non) (val p.1)
    rw [hx]
    exact ((U.at_ p.1 x hx p.2 h1).2).mono U.le
mutual
theorem Cv.rep (U : Vals1 K β cl lv F F' val) : ∀ {x y : D} {v : V}, Cv cl lv x y → Rep K β F x v → Rep K β F' y v
  | _, _, _, .same x, r => r.mono U.le
  | _, _, _, .lam (clL := clL) h1 h2 h3, .lmv a b => by
    subst h2 h3
    refine .lam (cl := clL) (vs := clL.map fun p => val p.1) (U.le _ _ a) (U.le _ _ b) rfl (by rw [List.length_map]) (fun x y c e1 e2 => ?_) (fun i c v e1 e2 => ?_) (rep_caps U h1)
    · have k1 := (h1 _ (PySem.mem_of_lookup e1)).1
      have k2 := (h1 _ (PySem.mem_of_lookup e2)).1
      exact U.inj x y c k1 k2
    · rw [List.getElem?_map] at e1 e2
      obtain ⟨p, g1, rfl⟩ := Option.map_eq_some_iff.mp e1
      rw [g1] at e2
      cases e2
      obtain ⟨k1, x, hx⟩ := h1 p (List.mem_of_getElem? g1)
      exact (U.at_ p.1 x hx p.2 k1).1
  | _, _, _, .lst h, .lst a b c => .lst (U.le _ _ a) b (CvAll.rep U h c)
theorem CvAll.rep (U : Vals1 K β cl lv F F' val) : ∀ {xs ys : List D} {vs : List V}, CvAll cl lv xs ys → RepAll K β F xs vs → RepAll K β F' ys vs
  | _, _, _, .nil, .nil => .nil
  | _, _, _, .cons h t, .cons a b => .cons (Cv.rep U h a) (CvAll.rep U t b)
end
end
theorem code_cell {P : Program} {w : World} {H : Hp} {h : Heap} (ok : HOk P w H h) {c : Addr} {q : Str} {v : V} (e : H c = some (LamX.CodeO c q)) (z : ∃ u, h.IsCell c (some u)) : False := by
  obtain ⟨u, o, ho, hd⟩ := z
  obtain ⟨⟨oc, cvs, t, hoc, hdc, hvc⟩, _, _⟩ := ok c _ e
  rw [ho] at hoc
  cases hoc
  rw [hd] at hdc
  cases hdc
section
variable {g : G} {ρ : Rho} {B B1 B2 : Bag} {e : Expr} {pos p : Pos} {es : List Expr} {ds ds' : List D} {n : Str}
/-- which variables' cells are tracked: names, data, slots -/
structure Lvs (g : G) (ρ : Rho) (lv : List (Str × D)) : Prop where
  at_ : ∀ q ∈ lv, ∃ i : Nat, g.N[i]? = some q.1 ∧ g.sc.names.lookup q.1 = some .cell ∧ ρ[i]? = some (.d q.2)
  fn : ∀ x, g.cf x = true
theorem live_vals {X : Cx} {pins : List (Addr × Obj)} {σ : L2.St} {H F : Hp} {s : Shared} {c0 : C0} {cl : List (Str × Addr)} {lv : List (Str × D)} (hX : At g X) (hcl : X.env.cells = cl) (I : Inv X pins σ H s) (R : Rel g.T.K c0 ρ B σ H F) (hl : Lvs g ρ lv) :
    ∃ (clT : List (Str × Addr)) (CH : Hp) (val : Str → V), Liv X σ clT CH ∧ Vals1 g.T.K.fr c0.β cl lv F (plus clT CH F) val ∧ ∀ b ∈ clT.map (·.2), ∃ v, CH b = some (CellO b v) := by
  have facts : ∀ q ∈ lv, ∃ (a : Addr) (v : V) (i : Nat), cl.lookup q.1 = some a ∧ g.N[i]? = some q.1 ∧ g.sc.names.lookup q.1 = some .cell ∧ σ[i]? = some (some v) ∧ Rep g.T.K c0.β F q.2 v := fun q hq => by
    obtain ⟨i, h1, h2, h3⟩ := hl.at_ q hq
    obtain ⟨v, h4, h5⟩ := R.dat i _ h3
    obtain ⟨a, ha⟩ := I.ok.has q.1 (.inl (by show X.env.scope.names.lookup q.1 = _; rw [hX.hs]; exact h2))
    exact ⟨a, v, i, by rw [← hcl]; exact ha, h1, h2, h4, h5⟩
  have inj : ∀ x y c, cl.lookup x = some c → cl.lookup y = some c → x = y := fun x y c => by rw [← hcl]; exact I.ok.inj x y c
  have nd : X.N.Nodup := by rw [hX.hN]; exact hX.nd
  -- each name's value
  have vals : ∀ n : Str, ∃ v : V, ∀ (x : D), lv.lookup n = some x → ∃ i, g.N[i]? = some n ∧ σ[i]? = some (some v) ∧ Rep g.T.K c0.β F x v := fun n => by
    cases hlk : lv.lookup n with
    | none => exact ⟨.non, fun x h => nomatch h⟩
    | some x =>
      obtain ⟨a, v, i, _, k2, _, k4, k5⟩ := facts _ (PySem.mem_of_lookup hlk)
      exact ⟨v, fun y h => by cases h; exact ⟨i, k2, k4, k5⟩⟩
  have ⟨val, hval⟩ := Classical.axiomOfChoice vals
  let clT : List (Str × Addr) := lv.map fun q => (q.1, (cl.lookup q.1).getD 0)
  have memT : ∀ b ∈ clT.map (·.2), ∃ (n : Str) (x : D), lv.lookup n = some x ∧ cl.lookup n = some b := fun b hb => by
    rw [List.map_map] at hb
    obtain ⟨q, hq, rfl⟩ := List.mem_map.mp hb
    obtain ⟨a, v, i, k1, _⟩ := facts q hq
    obtain ⟨x, hx⟩ := mem_lookup (l := lv) (n := q.1) (c := q.2) hq
    refine ⟨q.1, x, hx, ?_⟩
    show cl.lookup q.1 = some ((cl.lookup q.1).getD 0)
    rw [k1]
    rfl
  have inT : ∀ n x a, lv.lookup n = some x → cl.lookup n = some a → a ∈ clT.map (·.2) := fun n x a h1 h2 => by
    refine List.mem_map.mpr ⟨(n, a), List.mem_map.mpr ⟨(n, x), PySem.mem_of_lookup h1, ?_⟩, rfl⟩
    show (n, (cl.lookup n).getD 0) = (n, a)
    rw [h2]
    rfl
  have names : ∀ b : Addr, ∃ n : Str, b ∈ clT.map (·.2) → cl.lookup n = some b ∧ ∃ x, lv.lookup n = some x := fun b => by
    by_cases hb : b ∈ clT.map (·.2)
    · obtain ⟨n, x, h1, h2⟩ := memT b hb
      exact ⟨n, fun _ => ⟨h2, x, h1⟩⟩
    · exact ⟨"", fun z => absurd z hb⟩
  have ⟨nm, hnm⟩ := Classical.axiomOfChoice names
  let CH : Hp := fun b => some (CellO b (val (nm b)))
  have chv : ∀ n x a, lv.lookup n = some x → cl.lookup n = some a → nm a = n := fun n x a h1 h2 => inj _ _ a (hnm a (inT n x a h1 h2)).1 h2
  refine ⟨clT, CH, val, ⟨fun b hb => ?_⟩, ⟨inj, fun b o h => ?_, fun n x h1 a h2 => ?_⟩, fun b hb => ⟨_, rfl⟩⟩
  · obtain ⟨n, x, h1, h2⟩ := memT b hb
    obtain ⟨i, k1, k2, k3⟩ := hval n x h1
    obtain ⟨_, _, _, _, _, k5, _⟩ := facts _ (PySem.mem_of_lookup h1)
    refine ⟨n, val n, i, by rw [hcl]; exact h2, by rw [hX.hN]; exact k1, by rw [hX.hs]; exact k5, k2, ?_, I.ok.cab n b (hX.cell n (hl.fn n)) (by rw [hcl]; exact h2)⟩
    show some (CellO b (val (nm b))) = _
    rw [chv n x b h1 h2]
  · rw [plus_out]
    · exact h
    · intro hb
      obtain ⟨n, x, h1, h2⟩ := memT b hb
      have := R.sub b o h
      rw [I.freeC n b (by rw [hcl]; exact h2)] at this
      cases this
  · obtain ⟨i, k1, k2, k3⟩ := hval n x h1
    refine ⟨?_, k3⟩
    rw [plus_in (inT n x a h1 h2)]
    show some (CellO a (val (nm a))) = _
    rw [chv n x a h1 h2]
theorem ev_callL {j : Nat} {R : Con} {k : Bool} {cl : List (Str × Addr)} {q : Str} {cc : Addr} {lv : List (Str × D)} (hF : HasFn g.T j n R) (hj : j ≤ g.k) (hg : Glb g n) (hcl : g.cl = some (cl, q, cc)) (hl : Lvs g ρ lv) (ha : Evs g (e :: es) ρ B ds B1) (hv : CvAll cl lv ds ds') (hR : R ds' B1 (.d (.bl k)) B2)
    (hdb : (n == ("__debug__" : Str)) = false := by decide) (he : ∀ env : Env, starEach (e :: es) env = (false, eval e env) :: starEach es env := by intro _; rfl) (hpl : ∀ env : Env, (backTo pos (starEach es env)).any (·.1) = false := by intro _; rfl) : Ev g (.Call (.Name n p) (e :: es) [] pos) ρ B (.bl k) B2 := by
  refine ⟨fun X hX => ⟨fun pins s σ H Q I ⟨c0, F, Re, qq⟩ => ?_⟩⟩
  obtain ⟨f, fd, ps, hm, hk, hb, FF⟩ := hF.ex
  have F' : FnOk X.prog X.w X.K X.mg X.base CX0 j f fd ps (spD g.T.K R) := by
    rw [hX.hP, hX.hw, hX.hK, hX.hm, hX.hb]; exact FF
  have hbX : Binds X.K fd ps [] := by rw [hX.hK]; exact hb
  have nd : X.N.Nodup := by rw [hX.hN]; exact hX.nd
  refine wpAny_Call_Name_kw (ld_glob I (hg.at hX) (by rw [hX.hm]; exact hm) ?_ hdb)
  refine PySem.W.callWith_K (h₀ := X.base) I.ok.mod.kin (by rw [hX.hK]; exact hk) (thn ((ha.h X hX).run pos pins s σ H (fun vs H1 => ∃ F1, Rel g.T.K c0 ρ B1 σ H1 F1 ∧ Same F F1 ∧ RepAll g.T.K c0.β F1 ds vs) I ⟨c0, F, Re, fun vs H1 F1 R1 e1 h1 => ⟨F1, R1, e1, h1⟩⟩) fun us s1 ⟨vs, H1, I1, r, F1, R1, e1, h1⟩ => ⟨I1.kIn, ?_⟩) (he X.env) (hpl X.env)
  obtain ⟨clT, CH, val, L, U, hCH⟩ := live_vals hX (hX.cls _ hcl).1 I1 R1 hl
  have noC : ∀ {b o}, H1 b = some o → b ∉ clT.map (·.2) := fun {b o} h z => by rw [L.none_ I1 b z] at h; cases h
  have noF : ∀ {b o}, F1 b = some o → b ∉ clT.map (·.2) := fun h => noC (R1.sub _ _ h)
  have sp : spD g.T.K R vs (plus clT CH H1) (fun v H' => v = .bl k ∧ ∃ F', (∀ b o, some b ≠ c0.β → (∀ ps, o ≠ .tbl ps) → plus clT CH H1 b = some o → H' b = some o) ∧ (∀ b, plus clT CH H1 b ≠ none → H' b ≠ none) ∧ TabF g.T.K H' F' ∧ Same (plus clT CH F1) F' ∧ (∀ b, plus clT CH H1 b ≠ none → plus clT CH F1 b = none → F' b = none) ∧ Same F' H' ∧ ∀ a, c0.β = some a → H' a = some (bagH B2)) (fun _ _ _ => False) := by
    refine ⟨c0.β, plus clT CH F1, ds', B1, _, B2, hR, hv.rep U h1, fun b o h => ?_, fun p hp => ?_, fun a ha => ?_, fun v H' F' fr st tab e dj sub bg ok => ⟨?_, F', fr, st, tab, e, dj, sub, bg⟩⟩
    · by_cases hc : b ∈ clT.map (·.2)
      · rw [plus_in hc] at h ⊢; exact h
      · rw [plus_out hc] at h ⊢; exact R1.sub b o h
    · obtain ⟨⟨ps, t1, t2, t3⟩, t4⟩ := R1.tab p hp
      refine ⟨⟨ps, by rw [plus_out (noC t1)]; exact t1, t2, fun pos cv hc => ?_⟩, by rw [plus_out (noC t1)]; exact t4⟩
      obtain ⟨c2, a1, a2⟩ := t3 pos cv hc
      exact ⟨c2, a1, by rw [plus_out (noF a2)]; exact a2⟩
    · have hb := (R1.bag a ha).1
      exact ⟨by rw [plus_out (noC hb)]; exact hb, by rw [plus_out (noC hb)]; exact R1.F_bag ha⟩
    · cases ok; rfl
  have hlen : us.length = ps.length := r.length.symm.trans (F'.len _ _ _ _ sp)
  have b0 := hbX s1 us I1.kIn (by rw [List.append_nil]; exact hlen)
  rw [List.append_nil] at b0
  refine wpAny_call (codeAny_mono (F'.run X.A X.stack s1 (plus clT CH H1) ⟨us, []⟩ us vs _ _ (hX.room.mono hj) (L.env0 I1) b0 r sp) fun rr s' hq => ?_)
  match rr, hq with
  | .ok (.ret u), ⟨v, H', os, bare, un, hok, rv, ev, F2, fr, st, tab, ee, dj, sub, bg⟩ =>
    subst ev
    have cellT : ∀ b ∈ clT.map (·.2), ∀ v, CH b = some (CellO b v) → H' b = some (CellO b v) := fun b hb v hv => by
      refine fr b _ (fun z => ?_) (fun ps => CellO.ne_tbl) (by rw [plus_in hb]; exact hv)
      have q := (R1.bag b z.symm).1
      rw [L.none_ I1 b hb] at q; cases q
    have I2 := L.after nd I1 os bare un hok cellT
    have codeN : ∀ c2 q2, H' c2 = some (LamX.CodeO c2 q2) → c2 ∉ clT.map (·.2) := fun c2 q2 h z => by
      obtain ⟨v, hv⟩ := hCH c2 z
      obtain ⟨u, hu, _⟩ := cell_of hok (cellT c2 z v hv)
      exact code_cell (v := v) hok h ⟨u, hu⟩
    refine ⟨.bl k, rmv clT H', I2, rv, qq (.bl k) (rmv clT H') (rmv clT F2) (rel_call R1 (fun b o hb ho h => ?_) (fun b h => ?_) (fun p hp => ?_) (fun b o h => ?_) (fun b h1 h2 => ?_) (fun b o h => ?_) fun a ha => ?_) (e1.trans fun b o h => ?_) (.bl k) apart_d⟩
    · rw [rmv_out (noC h)]
      exact fr b o hb ho (by rw [plus_out (noC h)]; exact h)
    · cases hb : H1 b with
      | none => exact absurd hb h
      | some o =>
        rw [rmv_out (noC hb)]
        exact st b (by rw [plus_out (noC hb), hb]; exact fun z => nomatch z)
    · obtain ⟨⟨ps, t1, t2, t3⟩, t4⟩ := tab p hp
      obtain ⟨⟨ps1, t5, _⟩, _⟩ := R1.tab p hp
      refine ⟨⟨ps, by rw [rmv_out (noC t5)]; exact t1, t2, fun pos cv hc => ?_⟩, rmv_none t4⟩
      obtain ⟨c2, a1, a2⟩ := t3 pos cv hc
      exact ⟨c2, a1, by rw [rmv_out (codeN _ _ (sub _ _ a2))]; exact a2⟩
    · rw [rmv_out (noF h)]
      exact ee b o (by rw [plus_out (noF h)]; exact h)
    · cases hb : H1 b with
      | none => exact absurd hb h1
      | some o =>
        refine rmv_none (dj b (by rw [plus_out (noC hb), hb]; exact fun z => nomatch z) (by rw [plus_out (noC hb)]; exact h2))
    · obtain ⟨a1, a2⟩ := rmv_some h
      rw [rmv_out a2]
      exact sub b o a1
    · have hb := (R1.bag a ha).1
      rw [rmv_out (noC hb)]
      exact bg a ha
    · rw [rmv_out (noF h)]
      exact ee b o (by rw [plus_out (noF h)]; exact h)
end
end PD
namespace PD
open PySem PySem.Spec PyProof.Rows L2 RZ

/-! ### defs that make lambdas -/
structure FunL (K : PySem.W.Frag) (x qual : Str) (st : Stmt) (f : Addr) (fd : FuncData) (c : Addr) : Prop where
  ex : ∃ (oc : Value) (od : Option Addr) (kV doc pm : Value) (an : Option Addr) (ct : Value) (osl : Array (Option Value)),
    fd = PySem.W.fnOf x qual (defArgs st) (defBody st) (defScope st) .none kV doc pm an (.ref c) ct ∧ K.lookup f = some ⟨oc, od, .func fd, osl⟩ ∧ PySem.W.codeIn K (.ref c) qual = true
  kp : PySem.W.keepIn K (.ref f) = true
theorem FunL.f {K : PySem.W.Frag} {x qual : Str} {st : Stmt} {f c : Addr} {fd : FuncData} (F : FunL K x qual st f fd c) : Fun K x qual st f fd := by
  obtain ⟨oc, od, kV, doc, pm, an, ct, osl, h1, h2, h3⟩ := F.ex
  exact ⟨⟨oc, od, kV, doc, pm, an, _, ct, osl, h1, h2, h3⟩, F.kp⟩
def gL (T : Top) (N : List Str) (st : Stmt) (k : Nat) (cl : List (Str × Addr)) (q : Str) (c : Addr) : G := ⟨T, N, defScope st, k, fun _ => true, some (cl, q, c)⟩
theorem cells_at {sc : Scope} (k : Nat) : ∀ n, sc.names.lookup n = some .cell → ∃ a, (cellsFrom k sc.names []).lookup n = some a := fun n h => Option.isSome_iff_exists.mp (PySem.W.cellsFrom_some _ _ _ (.inl h))
theorem rel_start {T : Top} {N : List Str} {ds : List D} {β : Option Addr} {B : Bag} {vs : List V} {H Fz : Hp} (ha : RepAll T.K β Fz ds vs) (hsub : Same Fz H) (htab : TabF T.K H Fz) (hbag : ∀ a, β = some a → H a = some (bagH B) ∧ Fz a = none) : Rel T.K ⟨β, H, Fz⟩ (startR N ds) B (L2.start N vs) H Fz := by
  refine ⟨?_, fun b o _ _ h => h, fun b h => h, htab, Same.refl Fz, fun b _ h => h, hsub, fun a h => ⟨(hbag a h).1, (by show H a ≠ none; rw [(hbag a h).1]; exact fun z => nomatch z), (hbag a h).2⟩, fun i d h => ?_, fun i ct h => ?_, fun i j ct ct' p h => ?_⟩
  · unfold startR L2.start
    rw [List.length_append, List.length_append, List.length_map, List.length_map, List.length_replicate, List.length_replicate, ha.length]
  · rcases startR_get h with z | ⟨d', z, hd⟩
    · cases z
    · cases z
      obtain ⟨v, hv, hrep⟩ := ha.get hd
      refine ⟨v, ?_, hrep⟩
      unfold L2.start
      rw [List.getElem?_append_left (by rw [List.length_map]; exact (List.getElem?_eq_some_iff.mp hv).1), List.getElem?_map, hv]
      rfl
  · rcases startR_get h with z | ⟨d', z, _⟩ <;> cases z
  · rcases startR_get h with z | ⟨d', z, _⟩ <;> cases z
/-- as fn_ok, the body with its cells -/
theorem fn_okL {T : Top} {k : Nat} {x qual : Str} {st : Stmt} {f c : Addr} {fd : FuncData} {N ps : List Str} {R : Con} (F : FunL T.K x qual st f fd c) (S : FnScope N ps (defScope st)) (hm : T.mg x = some (.ref f)) (hb : Binds T.K fd ps [])
    (len : ∀ ds B r B', R ds B r B' → ds.length = ps.length)
    (body : ∀ ds B r B', R ds B r B' → ∀ cl, (∀ n, (defScope st).names.lookup n = some .cell → ∃ a, cl.lookup n = some a) → Exs (gL T N st k cl (qual ++ ".<locals>.") c) (defBody st) (startR N ds) B { nx := fun _ _ => False, rt := fun r' B2 => r' = r ∧ B2 = B' }) : HasFn T (k + 1) x R := by
  obtain ⟨oc, od, kV, doc, pm, an, ct, osl, hfd, lk, hcd⟩ := F.ex
  subst hfd
  refine ⟨f, _, ps, hm, F.kp, hb, fn_of lk hcd S (fun vs H Q E ⟨β, Fz, ds, B, r, B', hR, ha, _⟩ => ?_) fun A outer s H vs Q E hr ⟨β, Fz, ds, B, r, B', hR, ha, hsub, htab, hbag, q⟩ => ?_⟩
  · rw [← ha.length]
    exact len ds B r B' hR
  · have hx : At (gL T N st k (cellsFrom (s.heap.objs.size + 1) (defScope st).names []) (qual ++ ".<locals>.") c) (cxOf CX0 T.P T.w T.K T.mg T.base N qual (defScope st) f (.ref c) A outer s H E) :=
      ⟨rfl, rfl, rfl, rfl, rfl, rfl, rfl, S.nd, rfl, hr, fun _ _ => rfl, passes_of rfl, fun _ h => by cases h; exact ⟨rfl, rfl, rfl⟩⟩
    refine ⟨_, (body ds B r B' hR _ (cells_at _)).h _ hx, ⟨β, H, Fz⟩, Fz, rel_start ha hsub htab hbag, fun _ _ _ _ _ _ _ z => z.elim, fun ρ' B2 σ' H' F' r' v R' e' ok ⟨z1, z2⟩ => ?_, fun _ _ _ _ _ _ _ z => z.elim, fun _ _ _ _ _ _ _ z => z.elim⟩
    subst z1 z2
    exact q v H' F' R'.fr R'.st R'.tab e' (fun b h1 h2 => R'.dj b h1 h2) R'.sub (fun a h => (R'.bag a h).1) ok
/-- statements one behind the other -/
inductive Runs (g : G) : List Stmt → Rho → Bag → Rho → Bag → Prop
  | nil {ρ : Rho} {B : Bag} : Runs g [] ρ B ρ B
  | cons {st : Stmt} {sts : List Stmt} {ρ ρ1 ρ2 : Rho} {B B1 B2 : Bag} : Ex g st ρ B { nx := fun ρ' B' => ρ' = ρ1 ∧ B' = B1, rt := fun _ _ => False } → Runs g sts ρ1 B1 ρ2 B2 → Runs g (st :: sts) ρ B ρ2 B2
theorem Runs.run {g : G} {X : Cx} (hX : At g X) {rest : List Stmt} {pins : List (Addr × Obj)} {c : C0} {Q : Flow → Shared → Prop} : ∀ {sts : List Stmt} {ρ ρ' : Rho} {B B' : Bag} {s : Shared} {σ : L2.St} {H F : Hp}, Runs g sts ρ B ρ' B' → Inv X pins σ H s → Rel g.T.K c ρ B σ H F →
    (∀ s' σ' H' F', Inv X pins σ' H' s' → Rel g.T.K c ρ' B' σ' H' F' → Same F F' → wpAny (model X.prog X.w) X.A (execs rest X.env) Q X.xe s') → wpAny (model X.prog X.w) X.A (execs (sts ++ rest) X.env) Q X.xe s := by
  intro sts ρ ρ' B B' s σ H F hr
  induction hr generalizing s σ H F with
  | nil => intro I R h; exact h s σ H F I R (Same.refl F)
  | @cons st sts ρ ρ1 ρ2 B B1 B2 h1 _ ih =>
    intro I R h
    refine wpAny_execs_cons (thn ((h1.h X hX).run pins s σ H { nx := fun σ' H' => ∃ F', Rel g.T.K c ρ1 B1 σ' H' F' ∧ Same F F', rt := fun _ _ => False } I ⟨c, F, R, fun ρ' B' σ' H' F' R' e' ⟨z1, z2⟩ => ?_, fun _ _ _ _ _ _ _ _ _ _ z => z.elim, fun _ _ _ _ _ _ _ z => z.elim, fun _ _ _ _ _ _ _ z => z.elim⟩) fun f s1 q => ?_)
    · subst z1 z2
      exact ⟨F', R', e'⟩
    · match f, q with
      | .next, ⟨σ', H', I', F', R', e'⟩ => exact ih I' R' fun s2 σ2 H2 F2 I2 R2 e2 => h s2 σ2 H2 F2 I2 R2 (e'.trans e2)
      | .brk, ⟨_, _, _, z⟩ => exact z.elim
      | .cont, ⟨_, _, _, z⟩ => exact z.elim
      | .ret _, ⟨_, _, _, _, _, z⟩ => exact z.elim
/-- a def that gives its lambdas away: its cells are tracked from its end on -/
theorem fn_okG {T : Top} {k : Nat} {x qual : Str} {st : Stmt} {f c : Addr} {fd : FuncData} {N ps : List Str} {R : Con} (F : FunL T.K x qual st f fd c) (S : FnScope N ps (defScope st)) (hm : T.mg x = some (.ref f)) (hb : Binds T.K fd ps [])
    (len : ∀ ds B r B', R ds B r B' → ds.length = ps.length)
    (body : ∀ ds B r B', R ds B r B' → ∃ (sts : List Stmt) (e : Expr) (pos : Pos) (out' : List D) (lv : List (Str × D)), defBody st = sts ++ [.Return (some e) pos] ∧ r = .d (.lst out') ∧
      ∀ cl, (∀ n, (defScope st).names.lookup n = some .cell → ∃ a, cl.lookup n = some a) → ∃ ρ1 out, Runs (gL T N st k cl (qual ++ ".<locals>.") c) sts (startR N ds) B ρ1 B' ∧ Ev (gL T N st k cl (qual ++ ".<locals>.") c) e ρ1 B' (.lst out) B' ∧ Lvs (gL T N st k cl (qual ++ ".<locals>.") c) ρ1 lv ∧ CvAll cl lv out out') : HasFn T (k + 1) x R := by
  obtain ⟨oc, od, kV, doc, pm, an, ct, osl, hfd, lk, hcd⟩ := F.ex
  subst hfd
  have len' : ∀ (vs : List V) (H : Hp) (Q : VK) (E : XK), spD T.K R vs H Q E → vs.length = ps.length := fun vs H Q E ⟨β, Fz, ds, B, r, B', hR, ha, _⟩ => by
    rw [← ha.length]
    exact len ds B r B' hR
  refine ⟨f, _, ps, hm, F.kp, hb, len', fun A outer s H args us vs Q E hr e0 hbd r hsp => ?_⟩
  have hl := len' vs H Q E hsp
  obtain ⟨β, Fz, ds, B, rr, B', hR, ha, hsub, htab, hbag, q⟩ := hsp
  obtain ⟨sts, e, pos, out', lv, hst, rfl, hcl⟩ := body ds B rr B' hR
  obtain ⟨ρ1, out, hruns, hev, hlv, hcv⟩ := hcl (cellsFrom (s.heap.objs.size + 1) (defScope st).names []) (cells_at _)
  have stays := e0.mod.kin.keeps fun b o e => (e0.bs b o e).1
  have kinds : ∀ y ∈ ps.zip us, (defScope st).names.lookup y.1 = some .local ∨ ((defScope st).names.lookup y.1 = some .cell ∧ ((cellsFrom (s.heap.objs.size + 1) (defScope st).names []).lookup y.1).isSome = true) := fun y hy =>
    (S.par y.1 (List.of_mem_zip (a := y.1) (b := y.2) hy).1).elim .inl fun q => .inr ⟨q, PySem.W.cellsFrom_some _ _ _ (.inl q)⟩
  refine codeAny_call_function hr.depth (stays _ _ lk) rfl S.co S.gen rfl (PySem.W.codeRec_of stays hcd) (hbd _ _ _ _ (wpAny_newFunctionEnv_cells S.kind kinds fun env he s1 x => ?_))
  subst he
  refine ⟨(e0.mod.nolimit.keeps fun b o e => (e0.bs b o e).1).keeps x.toInCall.keep, codeAny_func ?_⟩
  have I : Inv (cxOf CX0 T.P T.w T.K T.mg T.base N qual (defScope st) f (.ref c) A outer s H E) [] (L2.start N vs) H s1 := inv_start S hr.hd e0 hl r x
  have hx : At (gL T N st k (cellsFrom (s.heap.objs.size + 1) (defScope st).names []) (qual ++ ".<locals>.") c) (cxOf CX0 T.P T.w T.K T.mg T.base N qual (defScope st) f (.ref c) A outer s H E) :=
    ⟨rfl, rfl, rfl, rfl, rfl, rfl, rfl, S.nd, rfl, hr.deeper _, fun _ _ => rfl, passes_of rfl, fun _ h => by cases h; exact ⟨rfl, rfl, rfl⟩⟩
  rw [hst]
  refine wpAny_mono (hruns.run (Q := fun fl s' => ∃ u, fl = .ret u ∧ CE outer T.P T.w H s Q u s') hx I (rel_start ha hsub htab hbag) fun s2 σ2 H2 F2 I2 R2 e2 => ?_) (fun fl s' ⟨u, z1, z2⟩ => by subst z1; exact z2) fun _ _ z => z
  refine wpAny_execs_cons (wpAny_Return_some (thn ((hev.h _ hx).run [] s2 σ2 H2 (fun v H3 => ∃ F3, Rel T.K ⟨β, H, Fz⟩ ρ1 B' σ2 H3 F3 ∧ Same F2 F3 ∧ Rep T.K β F3 (.lst out) v) I2 ⟨_, F2, R2, fun v H3 F3 R3 e3 ok _ => ⟨F3, R3, e3, ok⟩⟩) fun u s3 ⟨v, H3, I3, rv, F3, R3, e3, ok⟩ => ?_))
  obtain ⟨clT, CH, val, L, U, hCH⟩ := live_vals hx rfl I3 R3 hlv
  have noC : ∀ {b o}, H3 b = some o → b ∉ clT.map (·.2) := fun {b o} h z => by rw [L.none_ I3 b z] at h; cases h
  have noF : ∀ {b o}, F3 b = some o → b ∉ clT.map (·.2) := fun h => noC (R3.sub _ _ h)
  have b0 := I3.base
  refine ⟨u, rfl, v, plus clT CH H3, I3.os, I3.bare, ⟨b0.keep, b0.slot, fun b o e n hx => ?_, b0.there, fun b xs e => ?_, fun b o w e => ?_, fun b ps e => ?_⟩, L.hok I3, rv, q v (plus clT CH H3) (plus clT CH F3) (fun b o hb ho h => ?_) (fun b h => ?_) (fun p hp => ?_) ((e2.trans e3).trans U.le) (fun b h1 h2 => ?_) (fun b o h => ?_) (fun a ha => ?_) ((Cv.lst hcv).rep U ok)⟩
  · rw [plus_out (L.big (Heap.lt_size e))]
    exact b0.free b o e n hx
  · have h := b0.tups b xs e
    rw [plus_out (noC h)]
    exact h
  · have h := b0.frzs b o w e
    rw [plus_out (noC h)]
    exact h
  · obtain ⟨m1, h⟩ := b0.tbls b ps e
    exact ⟨m1, by rw [plus_out (noC h)]; exact h⟩
  · have h3 := R3.fr b o hb ho h
    rw [plus_out (noC h3)]
    exact h3
  · have h3 := R3.st b h
    cases hb : H3 b with
    | none => exact absurd hb h3
    | some o =>
      rw [plus_out (noC hb), hb]
      exact fun z => nomatch z
  · obtain ⟨⟨ps, t1, t2, t3⟩, t4⟩ := R3.tab p hp
    refine ⟨⟨ps, by rw [plus_out (noC t1)]; exact t1, t2, fun pos cv hc => ?_⟩, by rw [plus_out (noC t1)]; exact t4⟩
    obtain ⟨c2, a1, a2⟩ := t3 pos cv hc
    exact ⟨c2, a1, by rw [plus_out (noF a2)]; exact a2⟩
  · have h3 := R3.st b h1
    cases hb : H3 b with
    | none => exact absurd hb h3
    | some o =>
      rw [plus_out (noC hb)]
      exact R3.dj b h1 h2
  · by_cases hc : b ∈ clT.map (·.2)
    · rw [plus_in hc] at h ⊢; exact h
    · rw [plus_out hc] at h ⊢; exact R3.sub b o h
  · have hb := (R3.bag a ha).1
    rw [plus_out (noC hb)]
    exact hb
/-! ### lambdas as data, once their cells are told -/
def freeN (L : LamI) : List Str := ((L.scope.names.filter fun y => y.2 == .free).map (·.1)).reverse
def lamD (lv : List (Str × D)) (L : LamI) : D := .lam L (freeN L) ((freeN L).map fun n => (lv.lookup n).getD .non)
theorem cloFrom_names {cl : List (Str × Addr)} : ∀ (names : List (Str × NameKind)) (acc : List (Str × Addr)), (cloFrom cl names acc).map (·.1) = ((names.filter fun y => y.2 == .free).map (·.1)).reverse ++ acc.map (·.1)
  | [], acc => rfl
  | (n, k) :: r, acc => by
    unfold cloFrom
    by_cases hk : (k == NameKind.free) = true
    · rw [if_pos hk, cloFrom_names r, List.filter_cons, if_pos hk]
      simp
    · rw [if_neg hk, cloFrom_names r, List.filter_cons, if_neg hk]
theorem cv_lam {cl : List (Str × Addr)} {lv : List (Str × D)} {L : LamI} (h : ∀ n ∈ freeN L, (∃ a, cl.lookup n = some a) ∧ ∃ x, lv.lookup n = some x) : Cv cl lv (.lmv L (cloFrom cl L.scope.names [])) (lamD lv L) := by
  have e : (cloFrom cl L.scope.names []).map (·.1) = freeN L := by
    rw [cloFrom_names, List.map_nil, List.append_nil]
    rfl
  refine .lam (fun p hp => ?_) e.symm ?_
  · have hm : p.1 ∈ freeN L := by
      rw [← e]
      exact List.mem_map.mpr ⟨p, hp, rfl⟩
    obtain ⟨⟨a, ha⟩, hx⟩ := h p.1 hm
    refine ⟨?_, hx⟩
    rcases cloFrom_mem (n := p.1) (c := p.2) hp with z | ⟨_, z⟩
    · cases z
    · rw [ha] at z ⊢
      rw [z]
      rfl
  · rw [← e, List.map_map]
    rfl
/-- the lambdas written in a list, in the list added behind +, in what is returned -/
def eltsOf : Stmt → List Expr
  | .Assign _ (.List es _) _ => es
  | .Assign _ (.BinOp _ _ (.List es _) _) _ => es
  | .Return (some (.BinOp _ _ (.List es _) _)) _ => es
  | _ => []
def lamO (q : Str) : Expr → Option LamI
  | .Lambda p b s _ => some ⟨q, p, b, s⟩
  | _ => none
/-- an all over lists that reduces -/
def AllD (P : D → Prop) : List D → Prop
  | [] => True
  | x :: xs => P x ∧ AllD P xs
theorem AllD.mem {P : D → Prop} : ∀ {xs : List D}, AllD P xs → ∀ x ∈ xs, P x
  | y :: ys, h, x, hx => by
    rcases List.mem_cons.mp hx with rfl | hx
    · exact h.1
    · exact AllD.mem h.2 x hx
end PD
namespace PD
open PySem PySem.Spec PyProof.Rows L2 RZ

/-! ### (x,) * n -/
theorem flat_rep {α : Type} (x : α) : ∀ n : Nat, (List.replicate n [x]).flatten = List.replicate n x
  | 0 => rfl
  | n + 1 => by
    rw [List.replicate_succ, List.flatten_cons, flat_rep x n, List.replicate_succ]
    rfl
theorem rep_repl {K : PySem.W.Frag} {β : Option Addr} {F : Hp} {x : D} {v : V} (h : Rep K β F x v) : ∀ n : Nat, RepAll K β F (List.replicate n x) (List.replicate n v)
  | 0 => .nil
  | n + 1 => .cons h (rep_repl h n)
theorem b_repD {g : G} {x : D} {m : Nat} (hm : m ≤ 998) : BinD g (binaryOp .Mult) (.tup [x]) (nD (m + 2)) (.d (.tup (List.replicate (m + 2) x))) := fun X hX => ⟨_, op_repT (X := X), fun c ρ B σ H F v w Q R h1 h2 q => by
  have hz' : (sizeLine : Nat) = 16777216 := sizeLine_eq
  cases h2
  cases h1 with
  | @tup a xs _ hs hl hr =>
    cases hr with
    | @cons _ _ u _ r1 rn =>
      cases rn
      refine ⟨a, ((m + 2 : Nat) : Int), [u], rfl, rfl, by rw [hX.hK]; exact Same.seqT R.sub hs, by simp, by omega, by omega, by simp, fun p np => ?_⟩
      have e3 : (List.replicate ((m + 2 : Nat) : Int).toNat [u]).flatten = List.replicate (m + 2) u := by rw [Int.toNat_natCast, flat_rep]
      rw [e3]
      obtain ⟨R2, e2⟩ := R.new (o := .tup (List.replicate (m + 2) u)) np
      exact q _ _ _ R2 e2 (.tup (.inl (.inl upd_same)) (by rw [List.length_replicate]; omega) (rep_repl (r1.mono e2) _)) apart_d⟩

theorem law_okL {T : Top} {k jb ib : Nat} {f fb c : Addr} {fd fdb : FuncData} {st : Stmt} {N : List Str} {m : Int} {body rest : List Stmt} {p1 p2 p3 p4 p5 p6 : Pos} {j : Nat}
    (F : FunL T.K.fr "law" "law" st f fd c) (S : FnScope N ["script"] (defScope st)) (HB : FnOk T.P T.w T.K.fr T.mg T.base CX0 jb fb fdb ["script", "most"] (spBags T.K m)) (kb : PySem.W.keepIn T.K.fr (.ref fb) = true) (bb : Binds T.K.fr fdb ["script", "most"] [])
    (mgb : T.mg "_law_bags" = some (.ref fb)) (hj : jb ≤ k) (hbody : defBody st = .For (.Name "bag" p1) (.Call (.Name "_law_bags" p2) [.Name "script" p3, .Constant (.int m) j p4] [] p5) body [] p6 :: rest)
    (v : Vis (defScope st) "script") (hg : (defScope st).names.lookup ("_law_bags" : Str) = some .globalImplicit) (s : St1 (fnG T N st k) ib "bag") (hN0 : N[0]? = some ("script" : Str))
    (hb : ∀ cl, (∀ n, (defScope st).names.lookup n = some .cell → ∃ a, cl.lookup n = some a) → ∀ b, Bag0 b → Exs (gL T N st k cl (("law" : Str) ++ ".<locals>.") c) body ((rhoU N).set ib (.d .bag)) b (bagE N)) (hrest : ∀ cl, Exs (gL T N st k cl (("law" : Str) ++ ".<locals>.") c) rest (rhoU N) (0, 0, 0) lawE) : FnOk T.P T.w T.K.fr T.mg T.base CX0 (k + 1) f fd ["script"] (spLaw T.K) := by
  obtain ⟨oc, od, kV, doc, pm, an, ct, osl, hfd, lk, hcd⟩ := F.ex
  subst hfd
  refine fn_of lk hcd S (fun vs H Q E h => ?_) fun A outer s0 H vs Q E hr h => ?_
  · obtain ⟨a, ns, rfl, _⟩ := h
    rfl
  obtain ⟨a, ns, rfl, hs, hl, htz, q⟩ := h
  have hX : At (gL T N st k (cellsFrom (s0.heap.objs.size + 1) (defScope st).names []) (("law" : Str) ++ ".<locals>.") c) (cxOf CX0 T.P T.w T.K.fr T.mg T.base N "law" (defScope st) f (.ref c) A outer s0 H E) :=
    ⟨rfl, rfl, rfl, rfl, rfl, rfl, rfl, S.nd, rfl, hr, fun _ _ => rfl, (passes_of rfl), fun _ h => by cases h; exact ⟨rfl, rfl, rfl⟩⟩
  have hXN : (cxOf CX0 T.P T.w T.K.fr T.mg T.base N "law" (defScope st) f (.ref c) A outer s0 H E).N = N := rfl
  have HB' : FnOk T.P T.w T.K.fr T.mg T.base CX0 k fb fdb ["script", "most"] (spBags T.K m) := HB.mono hj
  have pb : PSs (cxOf CX0 T.P T.w T.K.fr T.mg T.base N "law" (defScope st) f (.ref c) A outer s0 H E) body (fun D σ H => ∃ b, Bag0 b ∧ tEx T.K ((rhoU N).set ib (.d .bag)) b (bagE N) D σ H) := ⟨fun pins s σ H D I ⟨b, h0, h1⟩ => (((hb _ (cells_at _)) b h0).h _ hX).run pins s σ H D I h1⟩
  rw [hbody]
  have hib : ib < N.length := (List.getElem?_eq_some_iff.mp s.ix).1
  refine ⟨_, pss_cons (ps_for (passes_of rfl) rfl (pi_list (pe_call (x := "_law_bags") HB' hr hg mgb kb bb .nil pass0 (pa_cons (pe_var (i := 0) hN0 v) (pa_cons pe_int pa_nil)))) (pg_name (i := ib) S.nd s.ix s.loc (.inl rfl)) pb) ((hrest _).h _ hX), ?_⟩
  refine ⟨.ref a, by (have hN : 0 < N.length := (List.getElem?_eq_some_iff.mp hN0).1; show (L2.start N [.ref a])[0]? = _; rfl), a, ns, rfl, hs, hl, htz, fun H1 p as BA => ?_⟩
  refine ⟨p, rfl, ⟨_, SqL.of BA.at_⟩, ?_⟩
  refine for_list (K := T.K.fr) (a := p) (xs := as.map V.ref) (g := gName ib) (tb := fun D σ H => ∃ b, Bag0 b ∧ tEx T.K ((rhoU N).set ib (.d .bag)) b (bagE N) D σ H) (D := { nx := tEx T.K (rhoU N) (0, 0, 0) lawE { nx := fun _ H' => Q .non H', rt := Q }, rt := Q }) (fun i σ H' => σ.length = N.length ∧ TabZ T.K H' ∧ H' p = some (.lst (as.map V.ref)) ∧ ∀ j x, i ≤ j → as[j]? = some x → ∃ b, H' x = some (bagH b) ∧ Bag0 b) ⟨?_, BA.tab, BA.at_, fun j x _ hx => (BA.bag x (List.mem_of_getElem? hx)).2.2⟩ (fun i σ H' _ hP => SqL.of hP.2.2.1) (fun i x σ H' hx hP => ?_) fun σ H' hP => ?_
  · unfold L2.start
    have hN : 0 < N.length := (List.getElem?_eq_some_iff.mp hN0).1
    rw [List.length_append, List.length_map, List.length_replicate]
    simp
    omega
  · obtain ⟨hlen, htz2, hp, hrem⟩ := hP
    rw [List.getElem?_map] at hx
    obtain ⟨ai, hai, rfl⟩ := Option.map_eq_some_iff.mp hx
    obtain ⟨b, hb1, hb2⟩ := hrem i ai (Nat.le_refl _) hai
    have hpne : p ≠ ai := fun z => (BA.bag ai (List.mem_of_getElem? hai)).2.1 z.symm
    have ndx : ∀ j x, i + 1 ≤ j → as[j]? = some x → x ≠ ai := fun j x hj hx2 z => by
      rw [z] at hx2
      have := nd_ix BA.nd hx2 hai
      omega
    refine ⟨b, hb2, ⟨some ai, H', fun z => if z = ai then none else ntb H' z⟩, fun z => if z = ai then none else ntb H' z, ⟨?_, fun b o _ _ h => h, fun b h => h, fun p hp => ⟨(by
        obtain ⟨ps, h1, h2, h3⟩ := (htz2.f p hp).1
        refine ⟨ps, h1, h2, fun pos cv hc => ?_⟩
        obtain ⟨k, a, b⟩ := h3 pos cv hc
        refine ⟨k, a, ?_⟩
        show (if k = ai then none else ntb H' k) = _
        rw [if_neg]
        · exact b
        · rintro rfl
          rw [ntb_of hb1 (fun _ z => nomatch z)] at b
          cases b), by
        show (if p.1 = ai then none else ntb H' p.1) = none
        split
        · rfl
        · exact (htz2.f p hp).2⟩, Same.refl _, fun b h1 h2 => h2, fun z o h => ?_, fun a' ha' => ?_, fun i' d hd => ?_, fun i' ct hd => ?_, fun i' j' ct ct' q hd => ?_⟩, ?_, ?_, ?_, ?_⟩
    · rw [List.length_set, List.length_set]
      unfold rhoU
      rw [List.length_replicate, hlen]
    · have h : (if z = ai then none else ntb H' z) = some o := h
      split at h
      · cases h
      · exact ntb_some h
    · cases ha'
      exact ⟨hb1, (by show H' ai ≠ none; rw [hb1]; exact fun z => nomatch z), if_pos rfl⟩
    · by_cases hi' : ib = i'
      · subst hi'
        rw [List.getElem?_set_self (by unfold rhoU; rw [List.length_replicate]; exact hib)] at hd
        cases hd
        exact ⟨.ref ai, List.getElem?_set_self (by rw [hlen]; exact hib), .bag rfl⟩
      · rw [List.getElem?_set_ne hi'] at hd
        exact nomatch rhoU_get hd
    · by_cases hi' : ib = i'
      · subst hi'
        rw [List.getElem?_set_self (by unfold rhoU; rw [List.length_replicate]; exact hib)] at hd
        cases hd
      · rw [List.getElem?_set_ne hi'] at hd
        exact nomatch rhoU_get hd
    · by_cases hi' : ib = i'
      · subst hi'
        rw [List.getElem?_set_self (by unfold rhoU; rw [List.length_replicate]; exact hib)] at hd
        cases hd
      · rw [List.getElem?_set_ne hi'] at hd
        exact nomatch rhoU_get hd
    · exact fun ρ' B' σ' H2 F2 R2 _ hn => ⟨R2.len.symm.trans hn, fun p hp => (R2.tab p hp).1.s R2.sub, R2.fr p _ (fun z => hpne (Option.some.inj z)) (fun _ z => (nomatch z)) hp, fun j x hj hx => let ⟨b', g1, g2⟩ := hrem j x (by omega) hx; ⟨b', R2.fr x _ (fun z => ndx j x hj hx (Option.some.inj z)) (fun _ z => (nomatch z)) g1, g2⟩⟩
    · exact fun _ _ _ _ _ _ _ _ _ _ z => z.elim
    · exact fun _ _ _ _ _ _ _ z => z.elim
    · exact fun ρ' B' σ' H2 F2 R2 _ hn => ⟨R2.len.symm.trans hn, fun p hp => (R2.tab p hp).1.s R2.sub, R2.fr p _ (fun z => hpne (Option.some.inj z)) (fun _ z => (nomatch z)) hp, fun j x hj hx => let ⟨b', g1, g2⟩ := hrem j x (by omega) hx; ⟨b', R2.fr x _ (fun z => ndx j x hj hx (Option.some.inj z)) (fun _ z => (nomatch z)) g1, g2⟩⟩
  · refine ⟨⟨none, H', ntb H'⟩, ntb H', ⟨?_, fun b o _ _ h => h, fun b h => h, TabZ.f hP.2.1, Same.refl _, fun b h1 h2 => h2, fun b o h => ntb_some h, fun a h => (nomatch h), fun i d hd => (nomatch rhoU_get hd), fun i ct hd => (nomatch rhoU_get hd), fun i j ct ct' q hd => (nomatch rhoU_get hd)⟩, fun _ _ _ _ _ _ _ z => z.elim, fun ρ' B' σ' H2 F2 r v R2 _ ok hr => ?_, fun _ _ _ _ _ _ _ z => z.elim, fun _ _ _ _ _ _ _ z => z.elim⟩
    · unfold rhoU
      rw [List.length_replicate, hP.1]
    · subst hr
      cases ok
      exact q H2
end PD
namespace PD
open PySem PySem.Spec PyProof.Rows L2 RZ

/-! ### the end of a row, the tables of some defs' code objects told -/
theorem walk_of3 {l : PySem.W.OpenLaw} {n k : Nat} {q : Program} {loose : List Str} {XP : (Str → Option Value) → Heap → Prop} {YP : World → Heap → Prop} {d : DefRec} {K : Params → PySem.W.Frag} {CX : World → CXT} {x : Str} {names : List Str} (hn : l.most = some n) (hn2 : n ≤ sizeLine) (hdf : d.params.defaults = []) (hr : Room k callerA)
    (hrec : ∀ y ∈ names, ((recsOf q).any fun e => e.name == y) = true) (hY : ∀ (w : World) (h : Heap), YP w h → (K w.params).In h)
    (F : ∀ (w : World) (mg : Str → Option Value) (fa : Addr) (h : Heap), (K w.params).In h → h.Ns mainGlobals mg → mg d.name = some (.ref fa) → (∀ y ∈ names, ∀ c P, PySem.W.tabIn (K w.params) y = some (c, P) → PySem.W.CodeHd h c P ∧ h.get? P = some (PySem.W.tabObj #[])) → LamX.LawAtS l w (K w.params) (CX w) k n x mg fa h)
    (hCX : ∀ (w : World) (H : Hp) (s : Shared) (e : Value) (s' : Shared), CX w [] H s (fun _ _ _ => False) e s' → False) : PySem.W.WalkO q loose XP YP l.row.toRowW d [] (fun f vs => PySem.call f vs) := by
  refine Att.attach_callB hn hdf fun w s0 s1 mg mb fa o pm cd doc a vs ns G Y ho hd hcd hmg hobj hints hlen hbits hg => ?_
  have inK := hY w _ Y
  have tabs : ∀ y ∈ names, ∀ c P, PySem.W.tabIn (K w.params) y = some (c, P) → PySem.W.CodeHd s1.heap c P ∧ s1.heap.get? P = some (PySem.W.tabObj #[]) := fun y hy c P ht => by
    cases hf : (recsOf q).find? (fun e => e.name == y) with
    | none =>
      obtain ⟨e, he, hy2⟩ := List.any_eq_true.mp (hrec y hy)
      exact absurd hy2 (List.find?_eq_none.mp hf e he)
    | some r => exact PySem.W.tab_of G.T inK hf ht
  obtain ⟨fd, cs, sp, t1, t2, t3, hb, hsp, hF⟩ := F w mg fa _ inK G.T.g hmg tabs
  exact LamX.law_callTs inK G.T.g G.T.b G.T.builtins G.T.nolimit hg t1 t2 t3 G.T.bmain hobj hints (Nat.le_trans hlen hn2) hr hF hb (fun H h1 h2 => hsp H a ns hlen hbits h1 h2) fun H e s' => hCX w H s1 e s'
theorem tabIn_of {K : PySem.W.Frag} {x : Str} {f c P : Addr} {oc e : Value} {od dd : Option Addr} {fd : FuncData} {sl sl2 : Array (Option Value)} {vs : Array Value} (a : PySem.W.nsIn K mainGlobals x = some (some (.ref f))) (b : K.lookup f = some ⟨oc, od, .func fd, sl⟩) (hc : fd.code = .ref c) (d : K.lookup c = some ⟨e, dd, .fields vs, sl2⟩) (hp : vs[11]? = some (.ref P)) :
    PySem.W.tabIn K x = some (c, P) := by
  unfold PySem.W.tabIn
  rw [a]
  dsimp only
  rw [b]
  dsimp only
  rw [hc]
  dsimp only
  rw [d]
  dsimp only
  rw [hp]
theorem kit_all {K : PySem.W.Frag} {er : Err → Addr} (hd : ∀ k, PySem.W.hasDictIn K (er k) = true) (ht : ∀ k, PySem.W.typeIn K (.ref (er k)) = some (.type "type")) (sub : ∀ k k', PySem.W.subIn K (.ref (er k)) (.ref (er k')) = some (decide (k = k'))) (k k' : Err) : PySem.W.kitOne K (.ref (er k)) (.ref (er k')) = some (decide (k = k')) := by
  unfold PySem.W.kitOne
  split
  · rename_i h
    have e : er k = er k' := Value.ref.inj (beq_iff_eq.mp h)
    have s1 := sub k k'
    rw [e, sub k' k', decide_eq_true rfl] at s1
    exact s1
  · show (if ((PySem.W.clsIn K (er k')).isSome && PySem.W.typeIn K (.ref (er k')) == some (.type "type")) = true then PySem.W.subIn K (.ref (er k)) (.ref (er k')) else none) = _
    obtain ⟨cd, hc, _⟩ := PySem.W.any_some (hd k')
    rw [if_pos (by rw [hc, ht k']; rfl)]
    exact sub k k'
theorem funL_mk {K : PySem.W.Frag} {x qual : Str} {st : Stmt} {f c : Addr} {oc : Value} {od an : Option Addr} {osl : Array (Option Value)} {kV doc pm ct : Value} (l : K.lookup f = some ⟨oc, od, .func (PySem.W.fnOf x qual (defArgs st) (defBody st) (defScope st) .none kV doc pm an (.ref c) ct), osl⟩) (hc : PySem.W.codeIn K (.ref c) qual = true) (k : PySem.W.keepIn K (.ref f) = true) :
    FunL K x qual st f (PySem.W.fnOf x qual (defArgs st) (defBody st) (defScope st) .none kV doc pm an (.ref c) ct) c := ⟨⟨oc, od, kV, doc, pm, an, ct, osl, rfl, l, hc⟩, k⟩
end PD
namespace PD
open PySem PySem.Spec PyProof.Rows L2 RZ
local macro_rules | `(tactic| walk_at "vis") => `(tactic| first | exact Or.inl rfl | exact Or.inr (Or.inl rfl) | exact Or.inr (Or.inr rfl))
local macro_rules | `(tactic| walk_at "blk") => `(tactic| (first | decide +kernel | (dsimp only [fnG, blkG]; decide +kernel)))
local macro_rules | `(tactic| walk_at "nm") => `(tactic| exact ev_nm rfl (by walk_at "vis") rfl)
local macro_rules | `(tactic| walk_at "st") => `(tactic| exact ⟨rfl, by first | exact Or.inl rfl | exact Or.inr rfl, by first | exact Or.inl rfl | exact Or.inr rfl⟩)
def topS (i : Nat) : Stmt := PySem.Challenge.pw_paidsecond_k01_what_are_logs_and_who_is.main.body.getD i (.Pass ⟨0, 0, 0, 0⟩)
structure Sale where
  win : Nat
  price : Int
  others : List Nat
def Sale.d (s : Sale) : D := .tup [nD s.win, .int s.price, .tup (s.others.map nD)]
def logD (l : List Sale) : D := .tup (l.map Sale.d)
def bD (b : Int × Int) : D := .tup [.int b.1, .int b.2]
structure SaleOk (folk : Nat) (top : Int) (s : Sale) : Prop where
  win : s.win < folk
  p1 : 1 ≤ s.price
  pt : s.price ≤ top
  ne : s.others ≠ []
  lt : ∀ w ∈ s.others, w < folk
  up : s.others.Pairwise (· < ·)
  nw : s.win ∉ s.others
structure LogOk (folk : Nat) (top : Int) (l : List Sale) : Prop where
  f2 : 2 ≤ folk
  f8 : folk ≤ 8
  t1 : 1 ≤ top
  tt : top ≤ 1000
  n8 : l.length ≤ 8
  ok : ∀ s ∈ l, SaleOk folk top s
theorem rising_len : ∀ (os : List Nat) (lo folk : Nat), os.Pairwise (· < ·) → (∀ w ∈ os, lo ≤ w ∧ w < folk) → os.length ≤ folk - lo
  | [], _, _, _, _ => Nat.zero_le _
  | o :: os, lo, folk, hp, hl => by
    have h0 := hl o List.mem_cons_self
    have := rising_len os (o + 1) folk (List.pairwise_cons.mp hp).2 fun w hw => ⟨(List.pairwise_cons.mp hp).1 w hw, (hl w (List.mem_cons_of_mem _ hw)).2⟩
    rw [List.length_cons]
    omega
theorem SaleOk.len {folk : Nat} {top : Int} {s : Sale} (h : SaleOk folk top s) : s.others.length ≤ folk := by
  have := rising_len s.others 0 folk h.up fun w hw => ⟨Nat.zero_le _, h.lt w hw⟩
  omega
def wonAt (l : List Sale) (w : Nat) : Int := maxO ((l.filter fun s => decide (s.win = w)).map Sale.price) 1
def lostAt (top : Int) (l : List Sale) (w : Nat) : Int := minO ((l.filter fun s => decide (w ∈ s.others)).map Sale.price) top
def boundsOf (folk : Nat) (top : Int) (l : List Sale) : List (Int × Int) := (List.range folk).map fun w => (wonAt l w, lostAt top l w)
def hiOf (bs : List (Int × Int)) (w : Nat) : Int := (bs.getD w (0, 0)).2
def loOf (bs : List (Int × Int)) (w : Nat) : Int := (bs.getD w (0, 0)).1
def settersOf (s : Sale) (bs : List (Int × Int)) : List Nat := s.others.filter fun w => decide (hiOf bs w = s.price)
def canBe (folk : Nat) (top : Int) (l : List Sale) : Bool := ((boundsOf folk top l).map fun b => decide (b.1 ≤ b.2)).all id && (l.map fun s => !decide (settersOf s (boundsOf folk top l) = [])).all id
theorem bs_get {bs : List (Int × Int)} {w : Nat} (h : w < bs.length) : (bs.map bD)[w]? = some (bD (loOf bs w, hiOf bs w)) := by
  rw [List.getElem?_map, List.getElem?_eq_getElem h]
  simp [loOf, hiOf, List.getD, List.getElem?_eq_getElem h]
theorem bounds_len {folk : Nat} {top : Int} {l : List Sale} : (boundsOf folk top l).length = folk := by unfold boundsOf; rw [List.length_map, List.length_range]

abbrev s_is_whole : Stmt := topS 12
abbrev n_is_whole : List Str := ["thing"]
theorem sc_is_whole : FnScope n_is_whole ["thing"] (defScope s_is_whole) := ⟨rfl, rfl, rfl, by decide +kernel, rfl, by decide +kernel, by decide +kernel⟩
def C_is_whole : Con := fun ds B r B' => ∃ d, d.plain = true ∧ ds = [d] ∧ r = .d (.bl (d.isInt && !d.isBl)) ∧ B' = B
theorem has_is_whole {T : Top} {f : Addr} {fd : FuncData} (bl : Bl T) (F : Fun T.K "is_whole" "is_whole" s_is_whole f fd) (hm : T.mg "is_whole" = some (.ref f)) : HasFn T 1 "is_whole" C_is_whole := by
  refine fn_ok F sc_is_whole hm (F.binds fun _ _ _ _ _ _ us hl => match us, hl with | [_], _ => rfl) (fun ds B r B' ⟨d, _, h, _⟩ => by rw [h]; rfl) fun ds B r B' ⟨d, h1, h2, h3, h4⟩ => ?_
  subst h2 h3 h4
  exact exs_one (ex_ret (ev_and (ev_isi bl (isi_int (D.plain.ty h1)) bl.int bt_int (by walk_at "nm")) (fun _ => ev_one (ev_not (ev_isi bl (isi_bool (D.plain.ty h1)) bl.bool bt_bool (by walk_at "nm")))) fun _ => rfl) ⟨rfl, rfl⟩)
abbrev s_is_within : Stmt := topS 13
abbrev n_is_within : List Str := ["thing", "low", "high"]
theorem sc_is_within : FnScope n_is_within ["thing", "low", "high"] (defScope s_is_within) := ⟨rfl, rfl, rfl, by decide +kernel, rfl, by decide +kernel, by decide +kernel⟩
def inR (d : D) (a b : Int) : Bool := match d with
  | .int i => decide (a ≤ i) && decide (i ≤ b)
  | _ => false
def C_is_within : Con := fun ds B r B' => ∃ d a b, d.plain = true ∧ ds = [d, .int a, .int b] ∧ r = .d (.bl (inR d a b)) ∧ B' = B
theorem has_is_within {T : Top} {f : Addr} {fd : FuncData} (H : HasFn T 1 "is_whole" C_is_whole) (F : Fun T.K "is_within" "is_within" s_is_within f fd) (hm : T.mg "is_within" = some (.ref f)) : HasFn T 2 "is_within" C_is_within := by
  refine fn_ok F sc_is_within hm (F.binds fun _ _ _ _ _ _ us hl => match us, hl with | [_, _, _], _ => rfl) (fun ds B r B' ⟨d, a, b, _, h, _⟩ => by rw [h]; rfl) fun ds B r B' ⟨d, a, b, h1, h2, h3, h4⟩ => ?_
  subst h2 h3 h4
  have call : ∀ z, EvR (fnG T n_is_within s_is_within 1) (.Call (.Name "is_whole" z) [.Name "thing" z] [] z) (startR n_is_within [d, .int a, .int b]) B' (.d (.bl (d.isInt && !d.isBl))) B' := fun z => ev_call H (Nat.le_refl _) rfl (evs_cons (by walk_at "nm") evs_nil) ⟨d, h1, rfl, rfl, rfl⟩
  have e : inR d a b = ((d.isInt && !d.isBl) && inR d a b) := by cases d <;> simp [inR, D.isInt, D.isBl]
  rw [e]
  refine exs_one (ex_ret (ev_and (ev_call H (Nat.le_refl _) rfl (evs_cons (by walk_at "nm") evs_nil) ⟨d, h1, rfl, rfl, rfl⟩) (fun h => ev_one ?_) fun _ => rfl) ⟨rfl, rfl⟩)
  cases d <;> simp [D.isInt, D.isBl] at h
  exact ev_chain c_le c_le (by walk_at "nm") (by walk_at "nm") (fun _ => (by walk_at "nm")) fun _ => rfl
theorem all_true {α : Type} {xs : List α} {q : α → Bool} (h : ∀ a ∈ xs, q a = true) : (xs.map q).all id = true := by
  simp
  exact h
structure Mst (T : Top) : Prop where
  folk : ∃ t, T.mg "MOST_FOLK" = some (.int 8 t)
  top : ∃ t, T.mg "MOST_TOP" = some (.int 1000 t)
  sales : ∃ t, T.mg "MOST_SALES" = some (.int 8 t)
theorem inR_t {i a b : Int} (h1 : a ≤ i) (h2 : i ≤ b) : inR (.int i) a b = true := by simp [inR, h1, h2]
def D.asI : D → Int
  | .int i => i
  | _ => 0
theorem inR_int {x : D} {a b : Int} (h : inR x a b = true) : x = .int x.asI ∧ a ≤ x.asI ∧ x.asI ≤ b := by
  cases x with
  | int i =>
    unfold inR at h
    rw [Bool.and_eq_true] at h
    exact ⟨rfl, of_decide_eq_true h.1, of_decide_eq_true h.2⟩
  | _ => cases h
abbrev s__law_well : Stmt := topS 49
abbrev n__law_well : List Str := ["cell", "turn"]
theorem sc__law_well : FnScope n__law_well ["cell", "turn"] (defScope s__law_well) := ⟨rfl, rfl, rfl, by decide +kernel, rfl, by decide +kernel, by decide +kernel⟩
theorem has__law_well {T : Top} {f : Addr} {fd : FuncData} (F : Fun T.K "_law_well" "_law_well" s__law_well f fd) (hm : T.mg "_law_well" = some (.ref f)) : HasFn T 1 "_law_well" C_well := by
  refine fn_ok F sc__law_well hm (F.binds fun _ _ _ _ _ _ us hl => match us, hl with | [_, _], _ => rfl) (fun ds B r B' ⟨c, t, h, _⟩ => by rw [h]; rfl) fun ds B r B' ⟨c, t, h1, x, y, z, h2, h3, h4, h5, h6⟩ => ?_
  subst h1 h2 h6
  have hp : CPow 10 18 := ⟨by omega, by omega, by decide⟩
  refine exs_cons (ex_if (k := decide (10 ^ (18 : Int).toNat ≤ c)) (B1 := B') (ts_cmp c_ge (by walk_at "nm") (ev_bin (b_pow hp) ev_int ev_int)) (fun hk => ?_) fun hk => ?_)
  · have hk' : (10 : Int) ^ 18 ≤ c := by simpa using hk
    rw [if_pos hk'] at h3
    subst h3 h4 h5
    exact exs_one (ex_ret (evr_lst (evs_cons (ev_bin b_sub (by walk_at "nm") (ev_bin (b_pow hp) ev_int ev_int)) (evs_cons (ev_bin (b_mod (by omega)) (by walk_at "nm") ev_int) (evs_cons (by walk_at "nm") evs_nil)))) ⟨rfl, rfl⟩)
  · have hk' : ¬ (10 : Int) ^ 18 ≤ c := by simpa using hk
    rw [if_neg hk'] at h3
    subst h3 h4 h5
    exact exs_nil (exs_one (ex_ret (evr_lst (evs_cons ev_int (evs_cons (ev_bin (b_mod (by omega)) (by walk_at "nm") ev_int) (evs_cons (by walk_at "nm") evs_nil)))) ⟨rfl, rfl⟩))
/-- the bag: how far its counter has come -/
structure BagN (m : Int) (B : Bag) : Prop where
  a : 0 ≤ B.1
  b : 0 ≤ B.2.1
  bt : B.2.1 < 2305843009213693951
  c : 0 ≤ B.2.2
  ct : B.2.2 ≤ m
theorem BagN.mono {m m' : Int} {B : Bag} (h : BagN m B) (le : m ≤ m') : BagN m' B := ⟨h.a, h.b, h.bt, h.c, Int.le_trans h.ct le⟩
def lcg (b c : Int) : Int :=
  ((((b + 1000003 * c) % 2305843009213693951) * ((b + 1000003 * c) % 2305843009213693951) + 7919 * c ^ (2 : Int).toNat + 5) % 2305843009213693951) ^ (3 : Int).toNat % 2305843009213693951 / 13
def takeV (B : Bag) (many : Nat) : Int := if 0 < B.1 then B.1 % many else lcg B.2.1 (B.2.2 + 1) % many
def takeN (B : Bag) (many : Nat) : Nat := (takeV B many).toNat
def takeB (B : Bag) (many : Nat) : Bag := if 0 < B.1 then (B.1 / many, B.2.1, B.2.2) else (B.1, B.2.1, B.2.2 + 1)
theorem takeV_nn {B : Bag} {many : Nat} (h : 0 < many) : 0 ≤ takeV B many ∧ takeV B many < many := by
  have h' : (many : Int) ≠ 0 := by omega
  have h2 : (0 : Int) < many := by omega
  unfold takeV
  split
  · exact ⟨Int.emod_nonneg _ h', Int.emod_lt_of_pos _ h2⟩
  · exact ⟨Int.emod_nonneg _ h', Int.emod_lt_of_pos _ h2⟩
theorem takeN_int {B : Bag} {many : Nat} (h : 0 < many) : nD (takeN B many) = .int (takeV B many) := by
  unfold nD takeN
  rw [Int.toNat_of_nonneg (takeV_nn h).1]
theorem takeN_lt {B : Bag} {many : Nat} (h : 0 < many) : takeN B many < many := by
  have := takeV_nn (B := B) h
  unfold takeN
  omega
theorem takeB_ok {m : Int} {B : Bag} {many : Nat} (h : BagN m B) : BagN (m + 1) (takeB B many) := by
  have := h.ct
  have := h.c
  unfold takeB
  split
  · exact ⟨Int.ediv_nonneg h.a (by omega), h.b, h.bt, h.c, by show B.2.2 ≤ m + 1; omega⟩
  · exact ⟨h.a, h.b, h.bt, by show 0 ≤ B.2.2 + 1; omega, by show B.2.2 + 1 ≤ m + 1; omega⟩
abbrev s__law_take : Stmt := topS 50
abbrev n__law_take : List Str := ["bag", "many", "p", "n", "found"]
theorem sc__law_take : FnScope n__law_take ["bag", "many"] (defScope s__law_take) := ⟨rfl, rfl, rfl, by decide +kernel, rfl, by decide +kernel, by decide +kernel⟩
def C__law_take : Con := fun ds B r B' => ∃ (many : Nat), 0 < many ∧ many ≤ 1000000 ∧ BagN 1000000000000 B ∧ ds = [.bag, nD many] ∧ r = .d (nD (takeN B many)) ∧ B' = takeB B many
theorem has__law_take {T : Top} {f : Addr} {fd : FuncData} (F : Fun T.K "_law_take" "_law_take" s__law_take f fd) (hm : T.mg "_law_take" = some (.ref f)) : HasFn T 1 "_law_take" C__law_take := by
  refine fn_ok F sc__law_take hm (F.binds fun _ _ _ _ _ _ us hl => match us, hl with | [_, _], _ => rfl) (fun ds B r B' ⟨m, _, _, _, h, _⟩ => by rw [h]; rfl) fun ds B r B' ⟨many, h0, h1, hB, h2, h3, h4⟩ => ?_
  subst h2 h3 h4
  rw [takeN_int h0]
  have hd : CDiv B.1 (many : Nat) := ⟨by omega, by omega⟩
  refine exs_cons (ex_if (k := decide (0 < B.1)) (B1 := B) (ts_cmp c_gt (ev_ixBag (by walk_at "nm") ev_int rfl) ev_int) (fun hk => ?_) fun hk => ?_)
  · have hk' : 0 < B.1 := by simpa using hk
    have e1 : takeV B many = B.1 % many := by unfold takeV; rw [if_pos hk']
    have e2 : takeB B many = Bag.set B 0 (B.1 / many) := by unfold takeB; rw [if_pos hk']; rfl
    rw [e1, e2]
    refine exs_cons (ex_set (i := 4) (by walk_at "st") (ev_bin (b_mod (i := B.1) (j := (many : Int)) (by omega)) (ev_ixBag (B2 := B) (by walk_at "nm") ev_int rfl) (by walk_at "nm")) ?_ (fun _ _ => rfl))
    refine exs_cons (ex_setBag (k := 0) (v := B.1 / (many : Int)) (B1 := B) (B2 := B) (ev_bin (b_fdiv hd) (ev_ixBag (B2 := B) (by walk_at "nm") ev_int rfl) (ev_nm (d := .int (many : Int)) rfl (by walk_at "vis") rfl)) (by walk_at "nm") ev_int (by omega) ?_)
    exact exs_one (ex_ret (by walk_at "nm") ⟨rfl, rfl⟩)
  · have hk' : ¬ 0 < B.1 := by simpa using hk
    have e1 : takeV B many = lcg B.2.1 (B.2.2 + 1) % many := by unfold takeV; rw [if_neg hk']
    have e2 : takeB B many = Bag.set B 2 (B.2.2 + 1) := by unfold takeB; rw [if_neg hk']; rfl
    rw [e1, e2]
    have c1 := hB.c
    have c2 := hB.ct
    have c3 := hB.b
    have c4 := hB.bt
    refine exs_nil (exs_cons (ex_setBag (k := 2) (v := B.2.2 + 1) (ev_bin b_add (ev_ixBag (by walk_at "nm") ev_int rfl) ev_int) (by walk_at "nm") ev_int (by omega) ?_))
    refine exs_cons (ex_set (i := 2) (by walk_at "st") ev_int ?_ (fun _ _ => rfl))
    refine exs_cons (ex_set (i := 3) (x := .int ((B.2.1 + 1000003 * (B.2.2 + 1)) % 2305843009213693951)) (by walk_at "st") (ev_bin (b_mod (by omega)) (ev_bin b_add (ev_ixBag (B2 := Bag.set B 2 (B.2.2 + 1)) (by walk_at "nm") ev_int rfl) (ev_bin (b_mul (.inl ⟨by omega, by omega⟩)) ev_int (ev_ixBag (B2 := Bag.set B 2 (B.2.2 + 1)) (by walk_at "nm") ev_int rfl))) (by walk_at "nm")) ?_ (fun _ _ => rfl))
    have n1 := Int.emod_nonneg (B.2.1 + 1000003 * (B.2.2 + 1)) (show (2305843009213693951 : Int) ≠ 0 by omega)
    have n2 := Int.emod_lt_of_pos (B.2.1 + 1000003 * (B.2.2 + 1)) (show (0 : Int) < 2305843009213693951 by omega)
    refine exs_cons (ex_set (i := 3) (x := .int ((((B.2.1 + 1000003 * (B.2.2 + 1)) % 2305843009213693951) * ((B.2.1 + 1000003 * (B.2.2 + 1)) % 2305843009213693951) + 7919 * (B.2.2 + 1) ^ (2 : Int).toNat + 5) % 2305843009213693951)) (by walk_at "st") (ev_bin (b_mod (by omega)) (ev_bin b_add (ev_bin b_add (ev_bin (b_mul (.inl ⟨by omega, by omega⟩)) (by walk_at "nm") (by walk_at "nm")) (ev_bin (b_mul (.inl ⟨by omega, by omega⟩)) ev_int (ev_bin (b_pow ⟨by omega, by omega, by omega⟩) (ev_ixBag (B2 := Bag.set B 2 (B.2.2 + 1)) (by walk_at "nm") ev_int rfl) ev_int))) ev_int) (by walk_at "nm")) ?_ (fun _ _ => rfl))
    generalize hz : ((B.2.1 + 1000003 * (B.2.2 + 1)) % 2305843009213693951) * ((B.2.1 + 1000003 * (B.2.2 + 1)) % 2305843009213693951) + 7919 * (B.2.2 + 1) ^ (2 : Int).toNat + 5 = z
    have n3 := Int.emod_nonneg z (show (2305843009213693951 : Int) ≠ 0 by omega)
    have n4 := Int.emod_lt_of_pos z (show (0 : Int) < 2305843009213693951 by omega)
    refine exs_one (ex_ret (ev_bin (b_mod (i := (z % 2305843009213693951) ^ (3 : Int).toNat % 2305843009213693951 / 13) (j := (many : Int)) (by omega)) (ev_bin (b_fdiv (i := (z % 2305843009213693951) ^ (3 : Int).toNat % 2305843009213693951) (j := 13) ⟨by omega, by omega⟩) (ev_bin (b_mod (i := (z % 2305843009213693951) ^ (3 : Int).toNat) (j := 2305843009213693951) (by omega)) (ev_bin (b_pow (i := z % 2305843009213693951) (j := 3) ⟨by omega, by omega, by omega⟩) (by walk_at "nm") ev_int) (by walk_at "nm")) ev_int) (by walk_at "nm")) ⟨?_, rfl⟩)
    unfold lcg
    rw [hz]
/-! ### _law_same -/
mutual
def D.same : D → D → Bool
  | .tup xs, .tup ys => D.sames xs ys
  | .lst xs, .lst ys => D.sames xs ys
  | .bl a, .bl b => decide (a = b)
  | .int a, .int b => decide (a = b)
  | .str a, .str b => decide (a = b)
  | .non, .non => true
  | _, _ => false
def D.sames : List D → List D → Bool
  | [], [] => true
  | x :: xs, y :: ys => D.same x y && D.sames xs ys
  | _, _ => false
end
inductive D.Scl : D → Prop
  | non : D.Scl .non
  | bl (b : Bool) : D.Scl (.bl b)
  | int (i : Int) : D.Scl (.int i)
  | str (s : Str) : D.Scl (.str s)
def D.fit : Nat → D → Prop
  | 0, d => d.Scl
  | n + 1, d => d.Scl ∨ ∃ xs, (d = .tup xs ∨ d = .lst xs) ∧ xs.length ≤ 1000000 ∧ ∀ x ∈ xs, D.fit n x
theorem sames_zip : ∀ xs ys : List D, D.sames xs ys = (decide (xs.length = ys.length) && ((xs.zip ys).map fun p => D.same p.1 p.2).all id)
  | [], [] => by simp [D.sames]
  | [], y :: ys => by simp [D.sames]
  | x :: xs, [] => by simp [D.sames]
  | x :: xs, y :: ys => by
    rw [D.sames, sames_zip xs ys]
    simp
    cases D.same x y <;> simp
abbrev s__law_same : Stmt := topS 52
abbrev n__law_same : List Str := ["a", "b", "x", "y"]
theorem sc__law_same : FnScope n__law_same ["a", "b"] (defScope s__law_same) := ⟨rfl, rfl, rfl, by decide +kernel, rfl, by decide +kernel, by decide +kernel⟩
def C__law_same (n : Nat) : Con := fun ds B r B' => ∃ a b, D.fit n a ∧ b.plain = true ∧ ds = [a, b] ∧ r = .d (.bl (D.same a b)) ∧ B' = B
theorem D.Scl.plain {d : D} (h : d.Scl) : d.plain = true := by cases h <;> (unfold D.plain D.py; rfl)
theorem D.fit.plain : ∀ {n : Nat} {d : D}, D.fit n d → d.plain = true
  | 0, d, h => D.Scl.plain (d := d) h
  | n + 1, d, .inl h => D.Scl.plain (d := d) h
  | n + 1, _, .inr ⟨xs, h, _, hx⟩ => by
    rcases h with rfl | rfl
    · exact plain_tup fun d hd => D.fit.plain (hx d hd)
    · exact plain_lst fun d hd => D.fit.plain (hx d hd)
theorem plain_cases {d : D} (h : d.plain = true) : d.Scl ∨ (∃ xs, d = .tup xs) ∨ ∃ xs, d = .lst xs := by
  cases d with
  | non => exact .inl .non
  | bl b => exact .inl (.bl b)
  | int i => exact .inl (.int i)
  | str s => exact .inl (.str s)
  | tup xs => exact .inr (.inl ⟨xs, rfl⟩)
  | lst xs => exact .inr (.inr ⟨xs, rfl⟩)
  | _ => unfold D.plain D.py at h; cases h
theorem bl_of {d : D} (h : d.isBl = true) : ∃ b, d = .bl b := by cases d <;> first | exact ⟨_, rfl⟩ | cases h
theorem str_of {d : D} (h : d.isStr = true) : ∃ b, d = .str b := by cases d <;> first | exact ⟨_, rfl⟩ | cases h
theorem int_of {d : D} (h : d.isInt = true) (h2 : d.isBl = false) : ∃ b, d = .int b := by
  cases d with
  | int i => exact ⟨i, rfl⟩
  | bl b => exact Bool.noConfusion h2
  | _ => exact Bool.noConfusion h
theorem same_bl (x y : Bool) : D.same (.bl x) (.bl y) = decide (x = y) := by unfold D.same; rfl
theorem same_int (x y : Int) : D.same (.int x) (.int y) = decide (x = y) := by unfold D.same; rfl
theorem same_str (x y : Str) : D.same (.str x) (.str y) = decide (x = y) := by unfold D.same; rfl
theorem same_tup (x y : List D) : D.same (.tup x) (.tup y) = D.sames x y := by unfold D.same; rfl
theorem same_lst (x y : List D) : D.same (.lst x) (.lst y) = D.sames x y := by unfold D.same; rfl
theorem same_body {T : Top} (bl : Bl T) (n : Nat) (a b : D) (B : Bag) (pa : a.plain = true) (pb : b.plain = true) (rec : ∀ xs, (a = .tup xs ∨ a = .lst xs) → xs.length ≤ 1000000 ∧ ∃ m, HasFn T n "_law_same" (C__law_same m) ∧ ∀ x ∈ xs, D.fit m x) :
    Exs (fnG T n__law_same s__law_same n) (defBody s__law_same) (startR n__law_same [a, b]) B (retE (.d (.bl (D.same a b))) B) := by
  have ta := D.plain.ty pa
  have tb := D.plain.ty pb
  refine exs_cons (ex_if (k := (a.isLst && b.isLst) || (a.isTup && b.isTup)) (B1 := B) (Tw.ts (tw_orP (Tw.ts (tw_andP (ts_val (ev_isi bl (isi_list ta) bl.list bt_list (by walk_at "nm"))) fun _ => tw_and1 (ts_val (ev_isi bl (isi_list tb) bl.list bt_list (by walk_at "nm"))))) fun _ => tw_or1 (Tw.ts (tw_andP (ts_val (ev_isi bl (isi_tuple ta) bl.tuple bt_tuple (by walk_at "nm"))) fun _ => tw_and1 (ts_val (ev_isi bl (isi_tuple tb) bl.tuple bt_tuple (by walk_at "nm"))))))) (fun hk => ?_) fun hk => exs_nil ?_)
  · have both : (∃ xs ys, a = .lst xs ∧ b = .lst ys) ∨ ∃ xs ys, a = .tup xs ∧ b = .tup ys := by
      rcases plain_cases pa with h | ⟨xs, rfl⟩ | ⟨xs, rfl⟩
      · cases h <;> simp [D.isLst, D.isTup] at hk
      · rcases plain_cases pb with h | ⟨ys, rfl⟩ | ⟨ys, rfl⟩
        · cases h <;> simp [D.isLst, D.isTup] at hk
        · exact .inr ⟨xs, ys, rfl, rfl⟩
        · simp [D.isLst, D.isTup] at hk
      · rcases plain_cases pb with h | ⟨ys, rfl⟩ | ⟨ys, rfl⟩
        · cases h <;> simp [D.isLst, D.isTup] at hk
        · simp [D.isLst, D.isTup] at hk
        · exact .inl ⟨xs, ys, rfl, rfl⟩
    rcases both with ⟨xs, ys, rfl, rfl⟩ | ⟨xs, ys, rfl, rfl⟩
    · obtain ⟨hl, m, H, hm⟩ := rec xs (.inr rfl)
      rw [same_lst, sames_zip]
      refine exs_one (ex_ret (ev_andP (ev_cmp c_eqN (ev_len bl (by walk_at "nm") rfl) (ev_len bl (by walk_at "nm") rfl)) fun _ => ev_one (ev_all bl (ev_lcE (own := [("x", 2), ("y", 3)]) (fun p : D × D => .tup [p.1, p.2]) .bl (fun p => D.same p.1 p.2) (xs.zip ys) (it_zipL rfl bl.zip (by walk_at "nm") (by walk_at "nm")) (by walk_at "blk") rfl (by rw [List.length_zip]; omega) fun p hp => lcp0 (tg_tup (tgs_cons (tg_name (i := 2) (by walk_at "st")) (tgs_cons (tg_name (i := 3) (by walk_at "st")) tgs_nil))) (ev_call H (Nat.le_refl _) rfl (evs_cons (by walk_at "nm") (evs_cons (by walk_at "nm") evs_nil)) ⟨p.1, p.2, hm _ (List.of_mem_zip hp).1, D.plain.lst pb _ (List.of_mem_zip hp).2, rfl, rfl, rfl⟩)))) ⟨rfl, rfl⟩)
    · obtain ⟨hl, m, H, hm⟩ := rec xs (.inl rfl)
      rw [same_tup, sames_zip]
      refine exs_one (ex_ret (ev_andP (ev_cmp c_eqN (ev_len bl (by walk_at "nm") rfl) (ev_len bl (by walk_at "nm") rfl)) fun _ => ev_one (ev_all bl (ev_lcE (own := [("x", 2), ("y", 3)]) (fun p : D × D => .tup [p.1, p.2]) .bl (fun p => D.same p.1 p.2) (xs.zip ys) (it_zipT rfl bl.zip (by walk_at "nm") (by walk_at "nm")) (by walk_at "blk") rfl (by rw [List.length_zip]; omega) fun p hp => lcp0 (tg_tup (tgs_cons (tg_name (i := 2) (by walk_at "st")) (tgs_cons (tg_name (i := 3) (by walk_at "st")) tgs_nil))) (ev_call H (Nat.le_refl _) rfl (evs_cons (by walk_at "nm") (evs_cons (by walk_at "nm") evs_nil)) ⟨p.1, p.2, hm _ (List.of_mem_zip hp).1, D.plain.tup pb _ (List.of_mem_zip hp).2, rfl, rfl, rfl⟩)))) ⟨rfl, rfl⟩)
  · refine exs_cons (ex_if (k := (a.isBl || a.isLst || a.isTup) || (b.isBl || b.isLst || b.isTup)) (B1 := B) (Tw.ts (tw_orP (ts_val (ev_callB (isi_blt ta) rfl bl.isinstance bt_isinstance (evs_cons (by walk_at "nm") (evs_cons (ev_tup (evs_cons (ev_bltn rfl bl.bool bt_bool rfl) (evs_cons (ev_bltn rfl bl.list bt_list rfl) (evs_cons (ev_bltn rfl bl.tuple bt_tuple rfl) evs_nil)))) evs_nil)) (by decide) (by decide)))
      fun _ => tw_or1 (ts_val (ev_callB (isi_blt tb) rfl bl.isinstance bt_isinstance (evs_cons (by walk_at "nm") (evs_cons (ev_tup (evs_cons (ev_bltn rfl bl.bool bt_bool rfl) (evs_cons (ev_bltn rfl bl.list bt_list rfl) (evs_cons (ev_bltn rfl bl.tuple bt_tuple rfl) evs_nil)))) evs_nil)) (by decide) (by decide))))) (fun hk2 => ?_) fun hk2 => exs_nil ?_)
    · have e : D.same a b = (a.isBl && (b.isBl && D.same a b)) := by
        rcases plain_cases pa with h | ⟨xs, rfl⟩ | ⟨xs, rfl⟩ <;> rcases plain_cases pb with h' | ⟨ys, rfl⟩ | ⟨ys, rfl⟩ <;> (try cases h) <;> (try cases h') <;> simp_all [D.isLst, D.isTup, D.isBl, D.same]
      rw [e]
      refine exs_one (ex_ret (ev_andP (ev_isi bl (isi_bool ta) bl.bool bt_bool (by walk_at "nm")) fun h1 => ev_andP (ev_isi bl (isi_bool tb) bl.bool bt_bool (by walk_at "nm")) fun h2 => ev_one ?_) ⟨rfl, rfl⟩)
      obtain ⟨x, rfl⟩ := bl_of h1
      obtain ⟨y, rfl⟩ := bl_of h2
      rw [same_bl]
      exact ev_cmp c_eqB (by walk_at "nm") (by walk_at "nm")
    · refine exs_cons (ex_if (k := a.isInt || b.isInt) (B1 := B) (Tw.ts (tw_orP (ts_val (ev_isi bl (isi_int ta) bl.int bt_int (by walk_at "nm"))) fun _ => tw_or1 (ts_val (ev_isi bl (isi_int tb) bl.int bt_int (by walk_at "nm"))))) (fun hk3 => ?_) fun hk3 => exs_nil ?_)
      · have e : D.same a b = (a.isInt && (b.isInt && D.same a b)) := by
          rcases plain_cases pa with h | ⟨xs, rfl⟩ | ⟨xs, rfl⟩ <;> rcases plain_cases pb with h' | ⟨ys, rfl⟩ | ⟨ys, rfl⟩ <;> (try cases h) <;> (try cases h') <;> simp_all [D.isLst, D.isTup, D.isBl, D.isInt, D.same]
        rw [e]
        refine exs_one (ex_ret (ev_andP (ev_isi bl (isi_int ta) bl.int bt_int (by walk_at "nm")) fun h1 => ev_andP (ev_isi bl (isi_int tb) bl.int bt_int (by walk_at "nm")) fun h2 => ev_one ?_) ⟨rfl, rfl⟩)
        simp only [Bool.or_eq_false_iff] at hk2
        obtain ⟨x, rfl⟩ := int_of h1 hk2.1.1.1
        obtain ⟨y, rfl⟩ := int_of h2 hk2.2.1.1
        rw [same_int]
        exact ev_cmp c_eqI (by walk_at "nm") (by walk_at "nm")
      · refine exs_cons (ex_if (k := a.isStr || b.isStr) (B1 := B) (Tw.ts (tw_orP (ts_val (ev_isi bl (isi_str ta) bl.str bt_str (by walk_at "nm"))) fun _ => tw_or1 (ts_val (ev_isi bl (isi_str tb) bl.str bt_str (by walk_at "nm"))))) (fun hk4 => ?_) fun hk4 => exs_nil ?_)
        · have e : D.same a b = (a.isStr && (b.isStr && D.same a b)) := by
            rcases plain_cases pa with h | ⟨xs, rfl⟩ | ⟨xs, rfl⟩ <;> rcases plain_cases pb with h' | ⟨ys, rfl⟩ | ⟨ys, rfl⟩ <;> (try cases h) <;> (try cases h') <;> simp_all [D.isLst, D.isTup, D.isBl, D.isInt, D.isStr, D.same]
          rw [e]
          refine exs_one (ex_ret (ev_andP (ev_isi bl (isi_str ta) bl.str bt_str (by walk_at "nm")) fun h1 => ev_andP (ev_isi bl (isi_str tb) bl.str bt_str (by walk_at "nm")) fun h2 => ev_one ?_) ⟨rfl, rfl⟩)
          obtain ⟨x, rfl⟩ := str_of h1
          obtain ⟨y, rfl⟩ := str_of h2
          rw [same_str]
          exact ev_cmp c_eqS (by walk_at "nm") (by walk_at "nm")
        · have e : D.same a b = (a.isNon && b.isNon) := by
            rcases plain_cases pa with h | ⟨xs, rfl⟩ | ⟨xs, rfl⟩ <;> rcases plain_cases pb with h' | ⟨ys, rfl⟩ | ⟨ys, rfl⟩ <;> (try cases h) <;> (try cases h') <;> simp_all [D.isLst, D.isTup, D.isBl, D.isInt, D.isStr, D.isNon, D.same]
          rw [e]
          exact exs_one (ex_ret (ev_andP (ev_cmp c_isN (by walk_at "nm") ev_non) fun _ => ev_one (ev_cmp c_isN (by walk_at "nm") ev_non)) ⟨rfl, rfl⟩)
theorem has__law_same {T : Top} {f : Addr} {fd : FuncData} (bl : Bl T) (F : Fun T.K "_law_same" "_law_same" s__law_same f fd) (hm : T.mg "_law_same" = some (.ref f)) : ∀ n, HasFn T (n + 1) "_law_same" (C__law_same n)
  | 0 => by
    refine fn_ok F sc__law_same hm (F.binds fun _ _ _ _ _ _ us hl => match us, hl with | [_, _], _ => rfl) (fun ds B r B' ⟨a, b, _, _, h, _⟩ => by rw [h]; rfl) fun ds B r B' ⟨a, b, h1, h2, h3, h4, h5⟩ => ?_
    subst h3 h4 h5
    have h1' : a.Scl := h1
    exact same_body bl 0 a b B' h1'.plain h2 fun xs hx => by rcases hx with rfl | rfl <;> cases h1'
  | n + 1 => by
    have H := has__law_same bl F hm n
    refine fn_ok F sc__law_same hm (F.binds fun _ _ _ _ _ _ us hl => match us, hl with | [_, _], _ => rfl) (fun ds B r B' ⟨a, b, _, _, h, _⟩ => by rw [h]; rfl) fun ds B r B' ⟨a, b, h1, h2, h3, h4, h5⟩ => ?_
    subst h3 h4 h5
    refine same_body bl (n + 1) a b B' h1.plain h2 fun xs hx => ?_
    rcases h1 with h1 | ⟨ys, h1, hl, hy⟩
    · rcases hx with rfl | rfl <;> cases h1
    · have e : xs = ys := by rcases hx with rfl | rfl <;> rcases h1 with h1 | h1 <;> cases h1 <;> rfl
      subst e
      exact ⟨hl, n, H, hy⟩
theorem map_get {α : Type} {xs : List α} {f : α → D} {i : Nat} {d : D} (h : (xs.map f)[i]? = some d) : ∃ x, xs[i]? = some x ∧ d = f x ∧ x ∈ xs ∧ i < xs.length ∧ xs.take (i + 1) = xs.take i ++ [x] := by
  rw [List.getElem?_map] at h
  obtain ⟨x, h1, h2⟩ := Option.map_eq_some_iff.mp h
  exact ⟨x, h1, h2.symm, List.mem_of_getElem? h1, (List.getElem?_eq_some_iff.mp h1).1, by rw [List.take_succ, h1]; rfl⟩
theorem rev_ind {α : Type} {P : List α → Prop} (h0 : P []) (h1 : ∀ xs x, P xs → P (xs ++ [x])) (xs : List α) : P xs := by
  rw [← List.reverse_reverse xs]
  induction xs.reverse with
  | nil => exact h0
  | cons a l ih => rw [List.reverse_cons]; exact h1 _ _ ih
def lotD (l : List Nat) : D := .tup (l.map nD)
def lotsOf (xs : List Nat) : List (List Nat) := xs.foldl (fun f x => f ++ f.map (· ++ [x])) [[]]
theorem lotsOf_snoc (xs : List Nat) (x : Nat) : lotsOf (xs ++ [x]) = lotsOf xs ++ (lotsOf xs).map (· ++ [x]) := by unfold lotsOf; rw [List.foldl_append]; rfl
theorem sub_one {l : List Nat} {x : Nat} (h : l.Sublist [x]) : l = [] ∨ l = [x] := by
  cases h with
  | cons _ h => exact .inl (List.sublist_nil.mp h)
  | cons_cons _ h => rw [List.sublist_nil.mp h]; exact .inr rfl
theorem lotsOf_mem (xs : List Nat) : ∀ l, l ∈ lotsOf xs ↔ l.Sublist xs := by
  refine rev_ind (P := fun xs => ∀ l, l ∈ lotsOf xs ↔ l.Sublist xs) (fun l => ?_) (fun xs x ih l => ?_) xs
  · simp [lotsOf]
  · rw [lotsOf_snoc, List.mem_append, List.mem_map, List.sublist_append_iff]
    constructor
    · rintro (h | ⟨m, h, rfl⟩)
      · exact ⟨l, [], by simp, (ih l).mp h, by simp⟩
      · exact ⟨m, [x], rfl, (ih m).mp h, List.Sublist.refl _⟩
    · rintro ⟨l1, l2, rfl, h1, h2⟩
      rcases sub_one h2 with rfl | rfl
      · exact .inl (by simpa using (ih l1).mpr h1)
      · exact .inr ⟨l1, (ih l1).mpr h1, rfl⟩
theorem lotsOf_len (xs : List Nat) : (lotsOf xs).length = 2 ^ xs.length := by
  refine rev_ind (P := fun xs => (lotsOf xs).length = 2 ^ xs.length) rfl (fun xs x ih => ?_) xs
  rw [lotsOf_snoc, List.length_append, List.length_map, ih, List.length_append]
  simp [Nat.pow_succ]
  omega
theorem pow8 {n : Nat} (h : n ≤ 8) : 2 ^ n ≤ 256 := Nat.pow_le_pow_right (by omega) h
abbrev s_lots : Stmt := topS 31
abbrev n_lots : List Str := ["some", "found", "one", "lot"]
theorem sc_lots : FnScope n_lots ["some"] (defScope s_lots) := ⟨rfl, rfl, rfl, by decide +kernel, rfl, by decide +kernel, by decide +kernel⟩
def C_lots : Con := fun ds B r B' => ∃ xs : List Nat, xs.length ≤ 8 ∧ ds = [.lst (xs.map nD)] ∧ r = .d (.lst ((lotsOf xs).map lotD)) ∧ B' = B
theorem has_lots {T : Top} {f : Addr} {fd : FuncData} (F : Fun T.K "lots" "lots" s_lots f fd) (hm : T.mg "lots" = some (.ref f)) : HasFn T 1 "lots" C_lots := by
  refine fn_ok F sc_lots hm (F.binds fun _ _ _ _ _ _ us hl => match us, hl with | [_], _ => rfl) (fun ds B r B' ⟨xs, _, h, _⟩ => by rw [h]; rfl) fun ds B r B' ⟨xs, h8, h1, h2, h3⟩ => ?_
  subst h1 h2 h3
  refine exs_cons (ex_set (i := 1) (by walk_at "st") (ev_lst (evs_cons (ev_tup evs_nil) evs_nil)) ?_ (fun _ _ => rfl))
  refine exs_cons (ex_for (it_seq (by walk_at "nm") rfl) (fun i ρ B => ∃ F, F = lotsOf (xs.take i) ∧ ρ = (startR n_lots [.lst (xs.map nD)]).set 1 (.d (.lst (F.map lotD))) ∧ B = B') ⟨_, rfl, rfl, rfl⟩ (fun i d ρ' B1 hd ⟨F, h1, h2, h3⟩ => ?_) fun ρ' B1 h => ?_)
  · obtain ⟨x, hx, rfl, hm, hi, ht⟩ := map_get hd
    subst h2 h3
    refine ⟨_, _, tg_name (i := 2) (by walk_at "st"), exs_cons (ex_set (i := 1) (by walk_at "st") (ev_catL (xs := F.map lotD) (ys := (F.map (· ++ [x])).map lotD) (by walk_at "nm") (ev_lcE (own := [("lot", 3)]) lotD lotD (· ++ [x]) F (it_seq (by walk_at "nm") rfl) (by walk_at "blk") rfl ?l1 fun l hl => lcp0 (tg_name (i := 3) (by walk_at "st")) ?e) ?l2) (exs_fgt (is := [2, 3]) (exs_nil ⟨F ++ F.map (· ++ [x]), ?a, ?b, rfl⟩)) (fun _ _ => rfl))⟩
    · rw [h1, lotsOf_len, List.length_take]
      exact Nat.le_trans (pow8 (by omega)) (by omega)
    · have e : lotD (l ++ [x]) = .tup (l.map nD ++ [nD x]) := by simp [lotD]
      rw [e]
      refine ev_catT (by walk_at "nm") (ev_tup (evs_cons (by walk_at "nm") evs_nil)) ?_
      rw [h1] at hl
      have := ((lotsOf_mem _ _).mp hl).length_le
      rw [List.length_take] at this
      simp
      omega
    · rw [List.length_map, List.length_map, List.length_map, h1, lotsOf_len, List.length_take]
      have := pow8 (n := min i xs.length) (by omega)
      omega
    · rw [ht, lotsOf_snoc, ← h1]
    · rw [List.map_append]
      rfl
  · obtain ⟨F, h1, h2, h3⟩ := h
    subst h2 h3
    rw [List.length_map, List.take_length] at h1
    subst h1
    exact exs_one (ex_ret (by walk_at "nm") ⟨rfl, rfl⟩)
theorem strict_of {os : List Nat} (h : os.Pairwise (· ≤ ·)) (nd : os.Nodup) : os.Pairwise (· < ·) :=
  (List.Pairwise.and h nd).imp fun ⟨h1, h2⟩ => Nat.lt_of_le_of_ne h1 h2
/-! ### _law_some, _law_market -/
def someStep (s : List Nat × List Nat × Bag) : List Nat × List Nat × Bag := (s.1.eraseIdx (takeN s.2.2 s.1.length), s.2.1 ++ [s.1.getD (takeN s.2.2 s.1.length) 0], takeB s.2.2 s.1.length)
def someSt (folk : Nat) (B : Bag) : Nat → List Nat × List Nat × Bag
  | 0 => (List.range folk, [], B)
  | i + 1 => someStep (someSt folk B i)
theorem cons_erase_perm : ∀ {l : List Nat} {k : Nat} (h : k < l.length), (l[k] :: l.eraseIdx k).Perm l
  | [], _, h => absurd h (Nat.not_lt_zero _)
  | x :: xs, 0, _ => List.Perm.refl _
  | x :: xs, k + 1, h => by
    have ih := cons_erase_perm (l := xs) (k := k) (by simpa using h)
    exact (List.Perm.swap x _ _).trans (ih.cons x)
theorem erase_map {α β : Type} (f : α → β) : ∀ (l : List α) (k : Nat), (l.map f).eraseIdx k = (l.eraseIdx k).map f
  | [], _ => rfl
  | x :: xs, 0 => rfl
  | x :: xs, k + 1 => by
    show f x :: (xs.map f).eraseIdx k = f x :: (xs.eraseIdx k).map f
    rw [erase_map f xs k]
theorem some_inv {folk : Nat} {B : Bag} {m : Int} (hB : BagN m B) : ∀ i, i ≤ folk → ((someSt folk B i).2.1 ++ (someSt folk B i).1).Perm (List.range folk) ∧ (someSt folk B i).2.1.length = i ∧ BagN (m + i) (someSt folk B i).2.2
  | 0, _ => ⟨by simp [someSt], rfl, by simpa [someSt] using hB⟩
  | i + 1, h => by
    obtain ⟨h1, h2, h3⟩ := some_inv (folk := folk) hB i (by omega)
    have hl := h1.length_eq
    rw [List.length_append, h2, List.length_range] at hl
    have hp : 0 < (someSt folk B i).1.length := by omega
    have hk := takeN_lt (B := (someSt folk B i).2.2) hp
    refine ⟨?_, ?_, ?_⟩
    · refine List.Perm.trans ?_ h1
      show ((someSt folk B i).2.1 ++ [(someSt folk B i).1.getD _ 0] ++ (someSt folk B i).1.eraseIdx _).Perm _
      rw [List.append_assoc]
      refine List.Perm.append_left _ ?_
      rw [List.getD_eq_getElem?_getD, List.getElem?_eq_getElem hk]
      exact cons_erase_perm hk
    · show ((someSt folk B i).2.1 ++ [_]).length = _
      rw [List.length_append, h2]
      rfl
    · have := takeB_ok (many := (someSt folk B i).1.length) h3
      show BagN _ (takeB _ _)
      rw [show m + ((i + 1 : Nat) : Int) = m + (i : Nat) + 1 by omega]
      exact this
def someTurns (folk least : Nat) (B : Bag) : Nat := least + takeN B (folk - least + 1)
def someL (folk least : Nat) (B : Bag) : List Nat := sortN (someSt folk (takeB B (folk - least + 1)) (someTurns folk least B)).2.1
def someB (folk least : Nat) (B : Bag) : Bag := (someSt folk (takeB B (folk - least + 1)) (someTurns folk least B)).2.2
theorem turns_le {folk least : Nat} {B : Bag} (h : least ≤ folk) : someTurns folk least B ≤ folk := by
  have := takeN_lt (B := B) (many := folk - least + 1) (by omega)
  unfold someTurns
  omega
theorem someL_ok {folk least : Nat} {B : Bag} {m : Int} (hB : BagN m B) (h : least ≤ folk) : (someL folk least B).Pairwise (· < ·) ∧ (∀ w ∈ someL folk least B, w < folk) ∧ least ≤ (someL folk least B).length ∧ (someL folk least B).length ≤ folk ∧ BagN (m + 1 + folk) (someB folk least B) := by
  have ht := turns_le (B := B) h
  obtain ⟨h1, h2, h3⟩ := some_inv (takeB_ok (many := folk - least + 1) hB) (someTurns folk least B) ht
  have nd := (h1.nodup_iff.mpr List.nodup_range)
  have hlen : (someL folk least B).length = someTurns folk least B := by unfold someL; rw [(sortN_perm _).length_eq, h2]
  refine ⟨strict_of (sortN_pair _) ((sortN_perm _).nodup_iff.mpr (List.nodup_append.mp nd).1), fun w hw => ?_, ?_, ?_, h3.mono (by omega)⟩
  · exact List.mem_range.mp (h1.mem_iff.mp (List.mem_append_left _ ((sortN_perm _).mem_iff.mp hw)))
  · rw [hlen]; unfold someTurns; omega
  · rw [hlen]; exact ht
abbrev s__law_some : Stmt := topS 56
abbrev n__law_some : List Str := ["bag", "folk1", "least", "left", "found", "turn"]
theorem sc__law_some : FnScope n__law_some ["bag", "folk1", "least"] (defScope s__law_some) := ⟨rfl, rfl, rfl, by decide +kernel, rfl, by decide +kernel, by decide +kernel⟩
def C__law_some : Con := fun ds B r B' => ∃ (folk least : Nat), least ≤ folk ∧ folk ≤ 1000 ∧ BagN 900000000000 B ∧ ds = [.bag, nD folk, nD least] ∧ r = .d (lotD (someL folk least B)) ∧ B' = someB folk least B
theorem has__law_some {T : Top} {f : Addr} {fd : FuncData} (bl : Bl T) (H : HasFn T 1 "_law_take" C__law_take) (F : Fun T.K "_law_some" "_law_some" s__law_some f fd) (hm : T.mg "_law_some" = some (.ref f)) : HasFn T 2 "_law_some" C__law_some := by
  refine fn_ok F sc__law_some hm (F.binds fun _ _ _ _ _ _ us hl => match us, hl with | [_, _, _], _ => rfl) (fun ds B r B' ⟨_, _, _, _, _, h, _⟩ => by rw [h]; rfl) fun ds B r B' ⟨folk, least, h1, h2, hB, h3, h4, h5⟩ => ?_
  subst h3 h4 h5
  have ht := turns_le (B := B) h1
  have hB1 := takeB_ok (many := folk - least + 1) hB
  refine exs_cons (ex_setR (i := 3) (r := .o (.l ((List.range folk).map nD))) (by walk_at "st") (evr_listRange rfl bl.list rfl bl.range (by walk_at "nm") (by omega)) ?_ (fun _ _ => rfl))
  refine exs_cons (ex_setR (i := 4) (by walk_at "st") (evr_lst evs_nil) ?_ (fun _ _ => rfl))
  let ρ1 (s : List Nat × List Nat × Bag) : Rho := [.d .bag, .d (nD folk), .d (nD least), .o (.l (s.1.map nD)), .o (.l (s.2.1.map nD)), .u]
  refine exs_cons (ex_for (B1 := takeB B (folk - least + 1)) (ds := (List.range (someTurns folk least B)).map nD) (it_rangeN (m := someTurns folk least B) rfl bl.range (EvR.to (ev_bin b_add (by walk_at "nm") (ev_call H (by show 1 ≤ 1; omega) rfl (evs_cons (by walk_at "nm") (evs_cons (EvR.to (ev_bin b_add (ev_bin b_sub (by walk_at "nm") (by walk_at "nm")) ev_int) ?e1) evs_nil)) ⟨folk - least + 1, by omega, by omega, hB.mono (by omega), rfl, rfl, rfl⟩)) ?e2) (by omega)) (fun i ρ B2 => ρ = ρ1 (someSt folk (takeB B (folk - least + 1)) i) ∧ B2 = (someSt folk (takeB B (folk - least + 1)) i).2.2) ⟨rfl, rfl⟩ (fun i d ρ' B2 hd ⟨h1, h2⟩ => ?_) fun ρ' B2 h => ?_)
  case e1 =>
    show D.int _ = D.int _
    congr 1
    omega
  case e2 => rfl
  · obtain ⟨x, hx, rfl, hm, hi, _⟩ := map_get hd
    rw [List.length_range] at hi
    subst h1 h2
    obtain ⟨g1, g2, g3⟩ := some_inv (folk := folk) hB1 i (by omega)
    have hl := g1.length_eq
    rw [List.length_append, g2, List.length_range] at hl
    generalize hs : someSt folk (takeB B (folk - least + 1)) i = s at *
    have hp : 0 < s.1.length := by omega
    have hk := takeN_lt (B := s.2.2) hp
    refine ⟨_, _, tg_name (i := 5) (by walk_at "st"), exs_cons (ex_appendPop (i := 4) (j := 3) (k := takeN s.2.2 s.1.length) (ds := s.2.1.map nD) (xs := s.1.map nD) (y := nD (s.1.getD (takeN s.2.2 s.1.length) 0)) (B1 := takeB s.2.2 s.1.length) rfl (by walk_at "vis") rfl rfl (by walk_at "vis") rfl (by decide) (ev_call H (by show 1 ≤ 1; omega) rfl (evs_cons (by walk_at "nm") (evs_cons (by rw [show nD s.1.length = nD (s.1.map nD).length by rw [List.length_map]]; exact ev_lenOwn (i := 3) (ds := s.1.map nD) rfl (by walk_at "vis") rfl rfl bl.len) evs_nil)) ⟨s.1.length, hp, by omega, g3.mono (by omega), rfl, rfl, rfl⟩) ?ix (by omega) (exs_fgt (is := [5]) (exs_nil ⟨?_, ?_⟩)) (by rw [List.length_map]; omega))⟩
    · rw [List.getElem?_map, List.getElem?_eq_getElem hk, List.getD_eq_getElem?_getD, List.getElem?_eq_getElem hk]
      rfl
    · show _ = ρ1 (someStep (someSt _ _ i))
      rw [hs]
      dsimp only [ρ1, someStep]
      rw [List.map_append, ← erase_map nD]
      rfl
    · show _ = (someStep (someSt _ _ i)).2.2
      rw [hs]
      rfl
  · obtain ⟨h1, h2⟩ := h
    rw [List.length_map, List.length_range] at h1 h2
    subst h1 h2
    exact exs_fz (i := 4) rfl (exs_one (ex_ret (ev_tuple bl (EvR.fz (evr_sorted bl (k_sortN (ns := (someSt folk (takeB B (folk - least + 1)) (someTurns folk least B)).2.1)) (by walk_at "nm"))) rfl) ⟨rfl, rfl⟩))
theorem maxL_spec {ns : List Int} (h : ns ≠ []) : maxL ns ∈ ns ∧ ∀ y ∈ ns, y ≤ maxL ns := by
  unfold maxL
  cases e : ns.max? with
  | none => exact absurd (List.max?_eq_none_iff.mp e) h
  | some a => exact List.max?_eq_some_iff.mp e
theorem minL_spec {ns : List Int} (h : ns ≠ []) : minL ns ∈ ns ∧ ∀ y ∈ ns, minL ns ≤ y := by
  unfold minL
  cases e : ns.min? with
  | none => exact absurd (List.min?_eq_none_iff.mp e) h
  | some a => exact List.min?_eq_some_iff.mp e
def wAt (ws : List Int) (w : Nat) : Int := ws.getD w 0
theorem wAt_get {ws : List Int} {w : Nat} (h : w < ws.length) : (ws.map D.int)[w]? = some (.int (wAt ws w)) := by
  rw [List.getElem?_map, List.getElem?_eq_getElem h]
  simp [wAt, List.getD, List.getElem?_eq_getElem h]
def bestOf (ws : List Int) (some' : List Nat) : List Nat := some'.filter fun w => decide (wAt ws w = maxL (some'.map (wAt ws)))
def winOf (ws : List Int) (some' : List Nat) (B : Bag) : Nat := (bestOf ws some').getD (takeN B (bestOf ws some').length) 0
def othOf (ws : List Int) (some' : List Nat) (B : Bag) : List Nat := some'.filter fun w => !decide (w = winOf ws some' B)
def saleOf (ws : List Int) (some' : List Nat) (B : Bag) : Sale := ⟨winOf ws some' B, maxL ((othOf ws some' B).map (wAt ws)), othOf ws some' B⟩
structure SaleFit (ws : List Int) (s : Sale) : Prop where
  mx : maxL (s.others.map (wAt ws)) = s.price
  wn : s.price ≤ wAt ws s.win
theorem best_ne {ws : List Int} {some' : List Nat} (h : some' ≠ []) : bestOf ws some' ≠ [] := by
  have hm := (maxL_spec (ns := some'.map (wAt ws)) (by simpa using h)).1
  obtain ⟨w, hw, e⟩ := List.mem_map.mp hm
  intro z
  have : w ∈ bestOf ws some' := List.mem_filter.mpr ⟨hw, decide_eq_true e⟩
  rw [z] at this
  cases this
theorem win_mem {ws : List Int} {some' : List Nat} {B : Bag} (h : some' ≠ []) : winOf ws some' B ∈ bestOf ws some' := by
  have hp : 0 < (bestOf ws some').length := List.length_pos_iff.mpr (best_ne h)
  have hk := takeN_lt (B := B) hp
  unfold winOf
  rw [List.getD_eq_getElem?_getD, List.getElem?_eq_getElem hk]
  exact List.getElem_mem hk
theorem wAt_mem {ws : List Int} {w : Nat} (h : w < ws.length) : wAt ws w ∈ ws := by
  unfold wAt
  rw [List.getD_eq_getElem?_getD, List.getElem?_eq_getElem h]
  exact List.getElem_mem h
theorem sale_ok {folk : Nat} {top : Int} {ws : List Int} {some' : List Nat} {B : Bag} (hl : ws.length = folk) (hw : ∀ x ∈ ws, 1 ≤ x ∧ x ≤ top) (up : some'.Pairwise (· < ·)) (lt : ∀ w ∈ some', w < folk) (h2 : 2 ≤ some'.length) : SaleOk folk top (saleOf ws some' B) ∧ SaleFit ws (saleOf ws some' B) := by
  have hne : some' ≠ [] := fun z => by rw [z] at h2; simp at h2
  have hwin := win_mem (ws := ws) (B := B) hne
  have hws : winOf ws some' B ∈ some' := (List.mem_filter.mp hwin).1
  have one : othOf ws some' B ≠ [] := by
    match some', up, h2, hne with
    | a :: b :: r, up, _, _ =>
      have hab : a < b := (List.pairwise_cons.mp up).1 b List.mem_cons_self
      intro z
      have nota : ∀ x ∈ a :: b :: r, x = winOf ws (a :: b :: r) B := fun x hx => Classical.byContradiction fun hc => by
        have : x ∈ othOf ws (a :: b :: r) B := List.mem_filter.mpr ⟨hx, by simp [hc]⟩
        rw [z] at this
        cases this
      have h1 := nota a List.mem_cons_self
      have h2 := nota b (List.mem_cons_of_mem _ List.mem_cons_self)
      omega
  have osub : ∀ w ∈ othOf ws some' B, w ∈ some' := fun w h => (List.mem_filter.mp h).1
  have hmx := maxL_spec (ns := (othOf ws some' B).map (wAt ws)) (by simpa using one)
  have hall := maxL_spec (ns := some'.map (wAt ws)) (by simpa using hne)
  have hwv : wAt ws (winOf ws some' B) = maxL (some'.map (wAt ws)) := by simpa using (List.mem_filter.mp hwin).2
  have hprice : 1 ≤ maxL ((othOf ws some' B).map (wAt ws)) ∧ maxL ((othOf ws some' B).map (wAt ws)) ≤ top ∧ maxL ((othOf ws some' B).map (wAt ws)) ≤ maxL (some'.map (wAt ws)) := by
    obtain ⟨w, h1, h2⟩ := List.mem_map.mp hmx.1
    have h3 := hw _ (wAt_mem (ws := ws) (w := w) (by rw [hl]; exact lt w (osub w h1)))
    have h4 := hall.2 (wAt ws w) (List.mem_map.mpr ⟨w, osub w h1, rfl⟩)
    omega
  refine ⟨⟨lt _ hws, hprice.1, hprice.2.1, one, fun w h => lt w (osub w h), List.Pairwise.filter _ up, fun z => ?_⟩, ⟨rfl, ?_⟩⟩
  · have := (List.mem_filter.mp z).2
    simp at this
    exact this rfl
  · show _ ≤ wAt ws (winOf ws some' B)
    rw [hwv]
    exact hprice.2.2
def logSt (ws : List Int) (folk : Nat) (B : Bag) : Nat → List Sale × Bag
  | 0 => ([], B)
  | i + 1 => ((logSt ws folk B i).1 ++ [saleOf ws (someL folk 2 (logSt ws folk B i).2) (someB folk 2 (logSt ws folk B i).2)], takeB (someB folk 2 (logSt ws folk B i).2) (bestOf ws (someL folk 2 (logSt ws folk B i).2)).length)
theorem log_inv {folk : Nat} {top : Int} {ws : List Int} {B : Bag} {m : Int} (f2 : 2 ≤ folk) (hl : ws.length = folk) (hw : ∀ x ∈ ws, 1 ≤ x ∧ x ≤ top) (hB : BagN m B) : ∀ i, (logSt ws folk B i).1.length = i ∧ (∀ s ∈ (logSt ws folk B i).1, SaleOk folk top s ∧ SaleFit ws s) ∧ BagN (m + i * (folk + 2)) (logSt ws folk B i).2
  | 0 => ⟨rfl, fun s h => (nomatch h), by simpa [logSt] using hB⟩
  | i + 1 => by
    obtain ⟨h1, h2, h3⟩ := log_inv f2 hl hw hB i
    obtain ⟨g1, g2, g3, g4, g5⟩ := someL_ok (folk := folk) (least := 2) h3 f2
    refine ⟨?_, fun s hs => ?_, ?_⟩
    · show ((logSt ws folk B i).1 ++ [_]).length = _
      rw [List.length_append, h1]
      rfl
    · have hs' : s ∈ (logSt ws folk B i).1 ++ [_] := hs
      rcases List.mem_append.mp hs' with h | h
      · exact h2 s h
      · rw [List.mem_singleton.mp h]
        exact sale_ok hl hw g1 g2 g3
    · have := takeB_ok (many := (bestOf ws (someL folk 2 (logSt ws folk B i).2)).length) g5
      show BagN _ (takeB _ _)
      refine this.mono ?_
      have e : ((i + 1 : Nat) : Int) * ((folk : Int) + 2) = (i : Int) * ((folk : Int) + 2) + ((folk : Int) + 2) := by
        rw [show ((i + 1 : Nat) : Int) = (i : Int) + 1 by omega, Int.add_mul]
        omega
      rw [e]
      omega
def mkF (mf : Nat) (B : Bag) : Nat := 2 + takeN B (mf - 1)
def mkT (mf mt : Nat) (B : Bag) : Nat := 1 + takeN (takeB B (mf - 1)) mt
def mkB2 (mf mt : Nat) (B : Bag) : Bag := takeB (takeB B (mf - 1)) mt
def wStep (t : Nat) (_ : Nat) (B : Bag) : Int × Bag := (((1 + takeN B t : Nat) : Int), takeB B t)
def mkW (mf mt : Nat) (B : Bag) : List Int := (mapT (wStep (mkT mf mt B)) (List.range (mkF mf B)) (mkB2 mf mt B)).1
def mkB3 (mf mt : Nat) (B : Bag) : Bag := (mapT (wStep (mkT mf mt B)) (List.range (mkF mf B)) (mkB2 mf mt B)).2
def mkL (mf mt ms : Nat) (B : Bag) : List Sale := (logSt (mkW mf mt B) (mkF mf B) (takeB (mkB3 mf mt B) (ms + 1)) (takeN (mkB3 mf mt B) (ms + 1))).1
def mkB (mf mt ms : Nat) (B : Bag) : Bag := (logSt (mkW mf mt B) (mkF mf B) (takeB (mkB3 mf mt B) (ms + 1)) (takeN (mkB3 mf mt B) (ms + 1))).2
structure MkOk (mf mt ms : Nat) (m : Int) (B : Bag) : Prop where
  f2 : 2 ≤ mkF mf B
  fm : mkF mf B ≤ mf
  t1 : 1 ≤ mkT mf mt B
  tm : mkT mf mt B ≤ mt
  b2 : BagN (m + 2) (mkB2 mf mt B)
  wl : (mkW mf mt B).length = mkF mf B
  wb : ∀ x ∈ mkW mf mt B, 1 ≤ x ∧ x ≤ (mkT mf mt B : Nat)
  b3 : BagN (m + 2 + mf) (mkB3 mf mt B)
theorem mk_ok {mf mt ms : Nat} {m : Int} {B : Bag} (hf : 2 ≤ mf) (ht : 1 ≤ mt) (hB : BagN m B) : MkOk mf mt ms m B := by
  have h1 := takeN_lt (B := B) (many := mf - 1) (by omega)
  have h2 := takeN_lt (B := takeB B (mf - 1)) (many := mt) (by omega)
  have b2 := takeB_ok (many := mt) (takeB_ok (many := mf - 1) hB)
  have ft : 0 < mkT mf mt B := by unfold mkT; omega
  have hi := mapT_inv (f := wStep (mkT mf mt B)) (fun n B => BagN (m + 1 + 1 + n) B) (fun x => 1 ≤ x ∧ x ≤ (mkT mf mt B : Nat)) (List.range (mkF mf B)) (mkB2 mf mt B) 0 (by simpa [mkB2] using b2) fun a ha n C _ _ h => by
    have := takeN_lt (B := C) ft
    refine ⟨?_, ?_⟩
    · have := takeB_ok (many := mkT mf mt B) h
      rw [show m + 1 + 1 + ((n + 1 : Nat) : Int) = m + 1 + 1 + (n : Nat) + 1 by omega]
      exact this
    · show 1 ≤ ((1 + takeN C (mkT mf mt B) : Nat) : Int) ∧ ((1 + takeN C (mkT mf mt B) : Nat) : Int) ≤ _
      omega
  have fm : mkF mf B ≤ mf := by unfold mkF; omega
  refine ⟨by unfold mkF; omega, fm, ft, by unfold mkT; omega, b2.mono (by omega), ?_, hi.2.1, ?_⟩
  · have := hi.2.2
    rw [List.length_range] at this
    exact this
  · have := hi.1
    rw [List.length_range] at this
    exact this.mono (by omega)
theorem mk_log {mf mt ms : Nat} {m : Int} {B : Bag} (hf : 2 ≤ mf) (h8 : mf ≤ 8) (ht : 1 ≤ mt) (h1000 : mt ≤ 1000) (hs : ms ≤ 8) (hB : BagN m B) : LogOk (mkF mf B) (mkT mf mt B : Nat) (mkL mf mt ms B) ∧ (∀ s ∈ mkL mf mt ms B, SaleFit (mkW mf mt B) s) ∧ (mkL mf mt ms B).length ≤ ms ∧ BagN (m + 1000) (mkB mf mt ms B) := by
  have ok := mk_ok (ms := ms) hf ht hB
  have b4 := takeB_ok (many := ms + 1) ok.b3
  have hk := takeN_lt (B := mkB3 mf mt B) (many := ms + 1) (by omega)
  obtain ⟨h1, h2, h3⟩ := log_inv (top := (mkT mf mt B : Nat)) ok.f2 ok.wl ok.wb b4 (takeN (mkB3 mf mt B) (ms + 1))
  have hlen : (mkL mf mt ms B).length ≤ ms := by unfold mkL; rw [h1]; omega
  have := ok.fm
  have := ok.t1
  have := ok.tm
  refine ⟨⟨ok.f2, by omega, by omega, by omega, by omega, fun s hs => (h2 s hs).1⟩, fun s hs => (h2 s hs).2, hlen, h3.mono ?_⟩
  have e : (takeN (mkB3 mf mt B) (ms + 1) : Int) * ((mkF mf B : Int) + 2) ≤ 8 * 10 := Int.mul_le_mul (by omega) (by omega) (by omega) (by omega)
  omega
abbrev s__law_market : Stmt := topS 57
abbrev n__law_market : List Str := ["bag", "most_folk", "most_top", "most_sales", "worths1", "log1", "turn", "folk1", "top1", "some", "best", "winner", "others", "who", "one"]
theorem sc__law_market : FnScope n__law_market ["bag", "most_folk", "most_top", "most_sales"] (defScope s__law_market) := ⟨rfl, rfl, rfl, by decide +kernel, rfl, by decide +kernel, by decide +kernel⟩
def C__law_market : Con := fun ds B r B' => ∃ (mf mt ms : Nat), 2 ≤ mf ∧ mf ≤ 8 ∧ 1 ≤ mt ∧ mt ≤ 1000 ∧ ms ≤ 8 ∧ BagN 500000000000 B ∧ ds = [.bag, nD mf, nD mt, nD ms] ∧ r = .d (.tup [nD (mkF mf B), nD (mkT mf mt B), logD (mkL mf mt ms B), .tup ((mkW mf mt B).map .int)]) ∧ B' = mkB mf mt ms B
theorem has__law_market {T : Top} {f : Addr} {fd : FuncData} (bl : Bl T) (H : HasFn T 1 "_law_take" C__law_take) (H2 : HasFn T 2 "_law_some" C__law_some) (F : Fun T.K "_law_market" "_law_market" s__law_market f fd) (hm : T.mg "_law_market" = some (.ref f)) : HasFn T 3 "_law_market" C__law_market := by
  refine fn_ok F sc__law_market hm (F.binds fun _ _ _ _ _ _ us hl => match us, hl with | [_, _, _, _], _ => rfl) (fun ds B r B' ⟨_, _, _, _, _, _, _, _, _, h, _⟩ => by rw [h]; rfl) fun ds B r B' ⟨mf, mt, ms, h1, h2, h3, h4, h5, hB, h6, h7, h8⟩ => ?_
  subst h6 h7 h8
  have ok := mk_ok (ms := ms) (mt := mt) h1 h3 hB
  have lok := fun i => log_inv (m := 500000000000 + 2 + mf + 1) (top := (mkT mf mt B : Nat)) ok.f2 ok.wl ok.wb (takeB_ok (many := ms + 1) ok.b3) i
  have fm := ok.fm
  have tm := ok.tm
  have t1 := ok.t1
  have f2 := ok.f2
  have wl := ok.wl
  have wb := ok.wb
  have hk := takeN_lt (B := mkB3 mf mt B) (many := ms + 1) (by omega)
  refine exs_cons (ex_asgS (x := .tup [nD (mkF mf B), nD (mkT mf mt B)]) (B1 := mkB2 mf mt B) (ev_tup (evs_cons (B1 := takeB B (mf - 1)) (EvR.to (ev_bin (b_add (i := 2) (j := ((takeN B (mf - 1) : Nat) : Int))) ev_int (ev_call H (by show 1 ≤ 2; omega) rfl (evs_cons (by walk_at "nm") (evs_cons (EvR.to (y := nD (mf - 1)) (ev_bin b_sub (by walk_at "nm") ev_int) ?e1) evs_nil)) ⟨mf - 1, by omega, by omega, hB.mono (by omega), rfl, rfl, rfl⟩)) ?e2)
    (evs_cons (EvR.to (ev_bin (b_add (i := 1) (j := ((takeN (takeB B (mf - 1)) mt : Nat) : Int))) ev_int (ev_call H (by show 1 ≤ 2; omega) rfl (evs_cons (by walk_at "nm") (evs_cons (by walk_at "nm") evs_nil)) ⟨mt, by omega, by omega, (takeB_ok hB).mono (by omega), rfl, rfl, rfl⟩)) ?e3) evs_nil))) (tg_tup (tgs_cons (tg_name (i := 7) (by walk_at "st")) (tgs_cons (tg_name (i := 8) (by walk_at "st")) tgs_nil))) ?_ (ss_cell rfl))
  case e1 =>
    exact congrArg D.int (by omega)
  case e2 =>
    exact congrArg D.int (by unfold mkF; omega)
  case e3 =>
    exact congrArg D.int (by unfold mkT; omega)
  refine exs_cons (ex_set (i := 4) (x := .tup ((mkW mf mt B).map .int)) (B1 := mkB3 mf mt B) (by walk_at "st") (ev_tuple bl (ev_lcBI (own := [("who", 13)]) (fun n C => BagN (500000000000 + 2 + n) C) (List.range (mkF mf B)) nD .int (wStep (mkT mf mt B)) (it_rangeN rfl bl.range (by walk_at "nm") (by omega)) (by walk_at "blk") rfl (by rw [List.length_range]; omega) (ok.b2.mono (by omega)) fun w hw n C hn hC => ?_) rfl) ?_ (fun _ _ => rfl))
  · rw [List.length_range] at hn
    have hT : 0 < mkT mf mt B := t1
    refine ⟨⟨_, _, tg_name (i := 13) (by walk_at "st"), by decide, EvR.to (ev_bin (b_add (i := 1) (j := ((takeN C (mkT mf mt B) : Nat) : Int))) ev_int (ev_call H (by show 1 ≤ 2; omega) rfl (evs_cons (by walk_at "nm") (evs_cons (by walk_at "nm") evs_nil)) ⟨mkT mf mt B, hT, by omega, hC.mono (by omega), rfl, rfl, rfl⟩)) ?_⟩, ?_⟩
    · exact congrArg D.int (by show _ = ((1 + takeN C (mkT mf mt B) : Nat) : Int); omega)
    · have := takeB_ok (many := mkT mf mt B) hC
      show BagN _ (takeB C _)
      exact this.mono (by omega)
  refine exs_cons (ex_setR (i := 5) (by walk_at "st") (evr_lst evs_nil) ?_ (fun _ _ => rfl))
  generalize hF : mkF mf B = folk at *
  generalize hW : mkW mf mt B = ws at *
  generalize hT : mkT mf mt B = top at *
  let ρ1 (l : List Sale) : Rho := [.d .bag, .d (nD mf), .d (nD mt), .d (nD ms), .d (.tup (ws.map .int)), .o (.l (l.map Sale.d)), .u, .d (nD folk), .d (nD top), .u, .u, .u, .u, .u, .u]
  refine exs_cons (ex_for (B1 := takeB (mkB3 mf mt B) (ms + 1)) (ds := (List.range (takeN (mkB3 mf mt B) (ms + 1))).map nD) (it_rangeN rfl bl.range (ev_call H (by show 1 ≤ 2; omega) rfl (evs_cons (by walk_at "nm") (evs_cons (EvR.to (y := nD (ms + 1)) (ev_bin b_add (by walk_at "nm") ev_int) rfl) evs_nil)) ⟨ms + 1, by omega, by omega, ok.b3.mono (by omega), rfl, rfl, rfl⟩) (by omega)) (fun i ρ C => ρ = ρ1 (logSt ws folk (takeB (mkB3 mf mt B) (ms + 1)) i).1 ∧ C = (logSt ws folk (takeB (mkB3 mf mt B) (ms + 1)) i).2) ⟨?st, rfl⟩ (fun i d ρ' C hd ⟨h1, h2⟩ => ?_) fun ρ' C h => ?_)
  case st =>
    rfl
  · obtain ⟨x, hx, rfl, hm, hi, _⟩ := map_get hd
    rw [List.length_range] at hi
    obtain ⟨g1, g2, g3⟩ := lok i
    subst h1 h2
    have e80 : (i : Int) * ((folk : Int) + 2) ≤ 8 * 10 := Int.mul_le_mul (by omega) (by omega) (by omega) (by omega)
    generalize hs : logSt ws folk (takeB (mkB3 mf mt B) (ms + 1)) i = s at *
    obtain ⟨k1, k2, k3, k4, k5⟩ := someL_ok (folk := folk) (least := 2) g3 f2
    have sok := sale_ok (B := someB folk 2 s.2) wl wb k1 k2 k3
    have kne : someL folk 2 s.2 ≠ [] := fun z => by rw [z] at k3; simp at k3
    have bne : 0 < (bestOf ws (someL folk 2 s.2)).length := List.length_pos_iff.mpr (best_ne kne)
    have blen : (bestOf ws (someL folk 2 s.2)).length ≤ (someL folk 2 s.2).length := List.length_filter_le _ _
    have olen : (othOf ws (someL folk 2 s.2) (someB folk 2 s.2)).length ≤ (someL folk 2 s.2).length := List.length_filter_le _ _
    have osub : ∀ w ∈ othOf ws (someL folk 2 s.2) (someB folk 2 s.2), w < ws.length := fun w h => by rw [wl]; exact k2 w (List.mem_filter.mp h).1
    refine ⟨_, _, tg_name (i := 6) (by walk_at "st"), ?_⟩
    refine exs_cons (ex_set (i := 9) (B1 := someB folk 2 s.2) (x := lotD (someL folk 2 s.2)) (by walk_at "st") (ev_call H2 (by show 2 ≤ 2; omega) rfl (evs_cons (by walk_at "nm") (evs_cons (by walk_at "nm") (evs_cons ev_int evs_nil))) ⟨folk, 2, by omega, by omega, g3.mono (by omega), rfl, rfl, rfl⟩) ?_ (fun _ _ => rfl))
    refine exs_cons (ex_setF (i := 10) (own := [("who", 13), ("one", 14)]) nD nD (fun w => decide (wAt ws w = maxL ((someL folk 2 s.2).map (wAt ws)))) id (someL folk 2 s.2) (by walk_at "st") rfl (it_seq (by walk_at "nm") rfl) (by walk_at "blk") rfl (by omega) (fun w hw => lcp1 (tg_name (i := 13) (by walk_at "st")) (ts_cmp c_eqI (ev_ixN (by walk_at "nm") (by walk_at "nm") rfl (wAt_get (by rw [wl]; exact k2 w hw))) (ev_max bl (ev_lcE (own := [("one", 14)]) nD .int (wAt ws) (someL folk 2 s.2) (it_seq (by walk_at "nm") rfl) (by walk_at "blk") rfl (by omega) fun v hv => lcp0 (tg_name (i := 14) (by walk_at "st")) (ev_ixN (by walk_at "nm") (by walk_at "nm") rfl (wAt_get (by rw [wl]; exact k2 v hv)))) (by simpa using kne))) fun _ => (by walk_at "nm")) ?_)
    rw [List.map_id]
    have wmem := win_mem (ws := ws) (B := someB folk 2 s.2) kne
    have hkk := takeN_lt (B := someB folk 2 s.2) bne
    refine exs_cons (ex_set (i := 11) (B1 := takeB (someB folk 2 s.2) (bestOf ws (someL folk 2 s.2)).length) (x := nD (winOf ws (someL folk 2 s.2) (someB folk 2 s.2))) (by walk_at "st") (ev_ixN (i := takeN (someB folk 2 s.2) (bestOf ws (someL folk 2 s.2)).length) (x := .lst ((bestOf ws (someL folk 2 s.2)).map nD)) (by walk_at "nm") (ev_call H (by show 1 ≤ 2; omega) rfl (evs_cons (by walk_at "nm") (evs_cons (EvR.to (y := nD (bestOf ws (someL folk 2 s.2)).length) (ev_len bl (x := .lst ((bestOf ws (someL folk 2 s.2)).map nD)) (by walk_at "nm") rfl) (by rw [List.length_map])) evs_nil)) ⟨_, bne, by omega, k5.mono (by omega), rfl, rfl, rfl⟩) rfl ?ix) ?_ (fun _ _ => rfl))
    · rw [List.getElem?_map, List.getElem?_eq_getElem hkk]
      unfold winOf
      rw [List.getD_eq_getElem?_getD, List.getElem?_eq_getElem hkk]
      rfl
    generalize hB5 : takeB (someB folk 2 s.2) (bestOf ws (someL folk 2 s.2)).length = B5 at *
    refine exs_cons (ex_set (i := 12) (x := lotD (othOf ws (someL folk 2 s.2) (someB folk 2 s.2))) (by walk_at "st") (EvR.to (ev_tuple bl (ev_lcF (own := [("who", 13)]) nD nD (fun w => !decide (w = winOf ws (someL folk 2 s.2) (someB folk 2 s.2))) id (someL folk 2 s.2) (it_seq (by walk_at "nm") rfl) (by walk_at "blk") rfl (by omega) fun w hw => lcp1 (tg_name (i := 13) (by walk_at "st")) (ts_cmp c_neN (by walk_at "nm") (by walk_at "nm")) fun _ => (by walk_at "nm")) rfl) (by rw [List.map_id]; rfl)) ?_ (fun _ _ => rfl))
    refine exs_cons (ex_append (i := 5) (B1 := B5) (y := (saleOf ws (someL folk 2 s.2) (someB folk 2 s.2)).d) rfl (by walk_at "vis") rfl (ev_tup (evs_cons (by walk_at "nm") (evs_cons (ev_max bl (ev_lcE (own := [("who", 13)]) nD .int (wAt ws) (othOf ws (someL folk 2 s.2) (someB folk 2 s.2)) (it_seq (by walk_at "nm") rfl) (by walk_at "blk") rfl (by omega) fun v hv => lcp0 (tg_name (i := 13) (by walk_at "st")) (ev_ixN (by walk_at "nm") (by walk_at "nm") rfl (wAt_get (osub v hv)))) (fun z => sok.1.ne (List.map_eq_nil_iff.mp z))) (evs_cons (by walk_at "nm") evs_nil)))) (exs_fgt (is := [6, 9, 10, 11, 12]) (exs_nil ⟨?_, ?_⟩)) (by rw [List.length_map]; omega))
    · show _ = ρ1 (logSt _ _ _ (i + 1)).1
      unfold logSt
      rw [hs]
      dsimp only [ρ1]
      rw [List.map_append]
      rfl
    · show _ = (logSt _ _ _ (i + 1)).2
      unfold logSt
      rw [hs, hB5]
  · obtain ⟨h1, h2⟩ := h
    rw [List.length_map, List.length_range] at h1 h2
    have eL : (logSt ws folk (takeB (mkB3 mf mt B) (ms + 1)) (takeN (mkB3 mf mt B) (ms + 1))).1 = mkL mf mt ms B := by unfold mkL; rw [hW, hF]
    have eB : (logSt ws folk (takeB (mkB3 mf mt B) (ms + 1)) (takeN (mkB3 mf mt B) (ms + 1))).2 = mkB mf mt ms B := by unfold mkB; rw [hW, hF]
    rw [eL] at h1
    rw [eB] at h2
    subst h1 h2
    exact exs_fz (i := 5) rfl (exs_one (ex_ret (ev_tup (evs_cons (by walk_at "nm") (evs_cons (by walk_at "nm") (evs_cons (ev_tuple bl (by walk_at "nm") rfl) (evs_cons (by walk_at "nm") evs_nil))))) ⟨rfl, rfl⟩))
/-! ### are_some, is_sale, is_log_of on whatever data -/
def riseB (xs : List Int) : Bool := ((xs.zip (xs.drop 1)).map fun p => decide (p.1 < p.2)).all id
def someD (folk least : Int) : D → Bool
  | .tup xs => decide (least ≤ (xs.length : Nat)) && ((xs.map fun x => inR x 0 (folk - 1)).all id && riseB (xs.map D.asI))
  | _ => false
def tupI : D → List Int
  | .tup xs => xs.map D.asI
  | _ => []
def saleD (folk top : Int) : D → Bool
  | .tup [w, p, o] => inR w 0 (folk - 1) && (inR p 1 top && (someD folk 1 o && !decide (w.asI ∈ tupI o)))
  | _ => false
def isLogD (folk top : Int) : D → Bool
  | .tup xs => decide (((xs.length : Nat) : Int) ≤ 8) && (xs.map (saleD folk top)).all id
  | _ => false
theorem ints_of {xs : List D} {a b : Int} (h : (xs.map fun x => inR x a b).all id = true) : xs = (xs.map D.asI).map .int := by
  rw [List.map_map]
  have e := List.map_congr_left (f := id) (g := D.int ∘ D.asI) (l := xs) fun x hm => (inR_int (List.all_eq_true.mp h _ (List.mem_map.mpr ⟨x, hm, rfl⟩))).1
  rw [List.map_id] at e
  exact e
theorem fit_tup {n : Nat} {xs : List D} (h : D.fit n (.tup xs)) : ∃ m, xs.length ≤ 1000000 ∧ ∀ x ∈ xs, D.fit m x := by
  cases n with
  | zero => cases h
  | succ n =>
    rcases h with h | ⟨ys, h, hl, hx⟩
    · cases h
    · rcases h with h | h
      · cases h
        exact ⟨n, hl, hx⟩
      · cases h
theorem zip_int {xs : List Int} : zipD (xs.map .int) ((xs.map D.int).drop 1) = (xs.zip (xs.drop 1)).map fun p => .tup [.int p.1, .int p.2] := by
  rw [← List.map_drop, zipD_map]
abbrev s_are_some : Stmt := topS 14
abbrev n_are_some : List Str := ["folk", "thing", "least", "one", "other"]
theorem sc_are_some : FnScope n_are_some ["folk", "thing", "least"] (defScope s_are_some) := ⟨rfl, rfl, rfl, by decide +kernel, rfl, by decide +kernel, by decide +kernel⟩
def C_are_some : Con := fun ds B r B' => ∃ (folk : Nat) (d : D) (k n : Nat), D.fit n d ∧ ds = [nD folk, d, nD k] ∧ r = .d (.bl (someD folk k d)) ∧ B' = B
theorem has_are_some {T : Top} {f : Addr} {fd : FuncData} (bl : Bl T) (H : HasFn T 2 "is_within" C_is_within) (F : Fun T.K "are_some" "are_some" s_are_some f fd) (hm : T.mg "are_some" = some (.ref f)) : HasFn T 3 "are_some" C_are_some := by
  refine fn_ok F sc_are_some hm (F.binds fun _ _ _ _ _ _ us hl => match us, hl with | [_, _, _], _ => rfl) (fun ds B r B' ⟨_, _, _, _, _, h, _⟩ => by rw [h]; rfl) fun ds B r B' ⟨folk, d, k, n, fit, h1, h2, h3⟩ => ?_
  subst h1 h2 h3
  have hp := fit.plain
  by_cases ht : ∃ xs, d = .tup xs
  · obtain ⟨xs, rfl⟩ := ht
    obtain ⟨m, hxl, hxf⟩ := fit_tup fit
    refine exs_cons (ex_if (k := false || (decide (((xs.length : Nat) : Int) < (k : Nat)) || !(xs.map fun x => inR x 0 ((folk : Int) - 1)).all id)) (B1 := B') (Tw.ts (tw_orP (k := false) (ts_not (k := true) (ts_val (ev_isi bl (isi_tuple rfl) bl.tuple bt_tuple (by walk_at "nm")))) fun _ => tw_orP (ts_cmp c_lt (ev_len bl (by walk_at "nm") rfl) (by walk_at "nm")) fun _ => tw_or1 (ts_not (ts_val (ev_all bl (ev_lcE (own := [("one", 3)]) id .bl (fun x => inR x 0 ((folk : Int) - 1)) xs (by rw [List.map_id]; exact it_seq (by walk_at "nm") rfl) (by walk_at "blk") rfl hxl fun x hx => lcp0 (tg_name (i := 3) (by walk_at "st")) (ev_call H (by show 2 ≤ 2; omega) rfl (evs_cons (by walk_at "nm") (evs_cons ev_int (evs_cons (ev_bin b_sub (by walk_at "nm") ev_int) evs_nil))) ⟨x, 0, (folk : Int) - 1, (hxf x hx).plain, rfl, rfl, rfl⟩))))))) (fun hk => ?bad) fun hk => exs_nil ?good)
    case bad =>
      have e : someD folk k (.tup xs) = false := by
        show (decide (((k : Nat) : Int) ≤ (xs.length : Nat)) && ((xs.map fun x => inR x 0 ((folk : Int) - 1)).all id && riseB (xs.map D.asI))) = false
        by_cases h1 : ((k : Nat) : Int) ≤ (xs.length : Nat)
        · rw [decide_eq_false (show ¬ ((xs.length : Nat) : Int) < (k : Nat) by omega)] at hk
          cases h2 : (xs.map fun x => inR x 0 ((folk : Int) - 1)).all id with
          | false => rw [Bool.false_and, Bool.and_false]
          | true => rw [h2] at hk; cases hk
        · rw [decide_eq_false h1, Bool.false_and]
      rw [e]
      exact exs_one (ex_ret ev_bl ⟨rfl, rfl⟩)
    case good =>
      have h1 : ¬ ((xs.length : Nat) : Int) < (k : Nat) := by
        intro z
        rw [decide_eq_true z] at hk
        cases hk
      have h2 : (xs.map fun x => inR x 0 ((folk : Int) - 1)).all id = true := by
        cases h2 : (xs.map fun x => inR x 0 ((folk : Int) - 1)).all id with
        | true => rfl
        | false => rw [h2, decide_eq_false h1] at hk; cases hk
      have e : someD folk k (.tup xs) = riseB (xs.map D.asI) := by
        show (decide (((k : Nat) : Int) ≤ (xs.length : Nat)) && ((xs.map fun x => inR x 0 ((folk : Int) - 1)).all id && riseB (xs.map D.asI))) = _
        rw [decide_eq_true (by omega), h2]
        rfl
      rw [e]
      have ei := ints_of h2
      generalize hns : xs.map D.asI = ns at *
      have hnl : ns.length ≤ 1000000 := by rw [← hns, List.length_map]; exact hxl
      subst ei
      refine exs_one (ex_ret (ev_all bl (ev_lcE (own := [("one", 3), ("other", 4)]) (fun p : Int × Int => .tup [.int p.1, .int p.2]) .bl (fun p => decide (p.1 < p.2)) (ns.zip (ns.drop 1)) (by rw [← zip_int, ← cutD_one]; exact it_zipT rfl bl.zip (by walk_at "nm") (ev_slT (by walk_at "nm") (po_so ev_int) po_no)) (by walk_at "blk") rfl (by rw [List.length_zip]; omega) fun p hp => lcp0 (tg_tup (tgs_cons (tg_name (i := 3) (by walk_at "st")) (tgs_cons (tg_name (i := 4) (by walk_at "st")) tgs_nil))) (ev_cmp c_lt (by walk_at "nm") (by walk_at "nm")))) ⟨rfl, rfl⟩)
  · have hnt : d.isTup = false := by
      cases d with
      | tup xs => exact absurd ⟨xs, rfl⟩ ht
      | _ => rfl
    have e : someD folk k d = false := by
      cases d with
      | tup xs => exact absurd ⟨xs, rfl⟩ ht
      | _ => rfl
    rw [e]
    refine exs_cons (ex_then (B1 := B') (Tw.ts (tw_or (k := true) (k' := true) (ts_not (k := false) (ts_val (by rw [← hnt]; exact ev_isi bl (isi_tuple (D.plain.ty hp)) bl.tuple bt_tuple (by walk_at "nm")))) (fun h => nomatch h) fun _ => rfl)) ?_)
    exact exs_one (ex_ret ev_bl ⟨rfl, rfl⟩)
abbrev s_is_sale : Stmt := topS 15
abbrev n_is_sale : List Str := ["folk", "top", "thing"]
theorem sc_is_sale : FnScope n_is_sale ["folk", "top", "thing"] (defScope s_is_sale) := ⟨rfl, rfl, rfl, by decide +kernel, rfl, by decide +kernel, by decide +kernel⟩
def C_is_sale : Con := fun ds B r B' => ∃ (folk : Nat) (top : Int) (d : D) (n : Nat), D.fit n d ∧ ds = [nD folk, .int top, d] ∧ r = .d (.bl (saleD folk top d)) ∧ B' = B
theorem sale_nt {folk top : Int} {d : D} (h : d.isTup = false) : saleD folk top d = false := by
  cases d with
  | tup xs => cases h
  | _ => rfl
theorem sale_n3 {folk top : Int} {xs : List D} (h : ¬ xs.length = 3) : saleD folk top (.tup xs) = false := by
  match xs, h with
  | [], _ => rfl
  | [_], _ => rfl
  | [_, _], _ => rfl
  | [_, _, _], h => exact absurd rfl h
  | _ :: _ :: _ :: _ :: _, _ => rfl
theorem has_is_sale {T : Top} {f : Addr} {fd : FuncData} (bl : Bl T) (H : HasFn T 2 "is_within" C_is_within) (H2 : HasFn T 3 "are_some" C_are_some) (F : Fun T.K "is_sale" "is_sale" s_is_sale f fd) (hm : T.mg "is_sale" = some (.ref f)) : HasFn T 4 "is_sale" C_is_sale := by
  refine fn_ok F sc_is_sale hm (F.binds fun _ _ _ _ _ _ us hl => match us, hl with | [_, _, _], _ => rfl) (fun ds B r B' ⟨_, _, _, _, _, h, _⟩ => by rw [h]; rfl) fun ds B r B' ⟨folk, top, d, n, fit, h1, h2, h3⟩ => ?_
  subst h1 h2 h3
  have hp := fit.plain
  by_cases ht : ∃ xs, d = .tup xs
  · obtain ⟨xs, rfl⟩ := ht
    obtain ⟨m, hxl, hxf⟩ := fit_tup fit
    refine exs_cons (ex_if (k := false || (!decide (xs.length = 3) || !inR (xs.getD 0 .non) 0 ((folk : Int) - 1))) (B1 := B') (Tw.ts (tw_orP (k := false) (ts_not (k := true) (ts_val (ev_isi bl (isi_tuple rfl) bl.tuple bt_tuple (by walk_at "nm")))) fun _ => tw_orP (ts_cmp c_neN (ev_len bl (by walk_at "nm") rfl) ev_int) fun hk => tw_or1 (ts_not (ts_val (ev_call H (by show 2 ≤ 3; omega) rfl (evs_cons (ev_ixN (i := 0) (by walk_at "nm") ev_int rfl ?get) (evs_cons ev_int (evs_cons (ev_bin b_sub (by walk_at "nm") ev_int) evs_nil))) ⟨_, _, _, ?pl, rfl, rfl, rfl⟩))))) (fun hk => ?bad) fun hk => exs_nil ?good)
    case get =>
      cases xs with
      | nil => exact absurd hk (by simp)
      | cons x xs => rfl
    case pl =>
      cases xs with
      | nil => exact absurd hk (by simp)
      | cons x xs => exact (hxf x List.mem_cons_self).plain
    case bad =>
      have e : saleD folk top (.tup xs) = false := by
        by_cases h3 : xs.length = 3
        · match xs, h3 with
          | [w, p, o], _ =>
            have hw : inR w 0 ((folk : Int) - 1) = false := by simpa using hk
            show (inR w 0 ((folk : Int) - 1) && _) = false
            rw [hw]
            rfl
        · exact sale_n3 h3
      rw [e]
      exact exs_one (ex_ret ev_bl ⟨rfl, rfl⟩)
    case good =>
      have h3 : xs.length = 3 := by simp at hk; exact hk.1
      match xs, h3, hk, hxf, fit, hp, hxl with
      | [w, p, o], _, hk, hxf, fit, hp, hxl =>
      have hw : inR w 0 ((folk : Int) - 1) = true := by simpa using hk
      have pp := (hxf p (by simp)).plain
      have po := hxf o (by simp)
      have e : saleD folk top (.tup [w, p, o]) = (inR p 1 top && (someD folk 1 o && !decide (w.asI ∈ tupI o))) := by
        show (inR w 0 ((folk : Int) - 1) && _) = _
        rw [hw]
        rfl
      rw [e]
      obtain ⟨ew, _⟩ := inR_int hw
      refine exs_one (ex_ret (ev_andP (ev_call H (by show 2 ≤ 3; omega) rfl (evs_cons (ev_ixN (i := 1) (by walk_at "nm") ev_int rfl rfl) (evs_cons ev_int (evs_cons (by walk_at "nm") evs_nil))) ⟨p, 1, top, pp, rfl, rfl, rfl⟩) fun _ => ev_andP (ev_call H2 (by show 3 ≤ 3; omega) rfl (evs_cons (by walk_at "nm") (evs_cons (ev_ixN (i := 2) (by walk_at "nm") ev_int rfl rfl) (evs_cons ev_int evs_nil))) ⟨folk, o, 1, m, po, rfl, rfl, rfl⟩) fun ho => ev_one ?_) ⟨rfl, rfl⟩)
      cases o with
      | tup os =>
        have h2 : (os.map fun x => inR x 0 ((folk : Int) - 1)).all id = true := by
          have ho' : (decide ((1 : Int) ≤ (os.length : Nat)) && ((os.map fun x => inR x 0 ((folk : Int) - 1)).all id && riseB (os.map D.asI))) = true := ho
          rw [Bool.and_eq_true, Bool.and_eq_true] at ho'
          exact ho'.2.1
        have ei := ints_of h2
        have ewi : w = .int w.asI := ew
        exact ev_cmp (c_notInI (i := w.asI) (ns := os.map D.asI) (y := .tup os) (congrArg some ei)) (EvR.to (ev_ixN (i := 0) (by walk_at "nm") ev_int rfl rfl) ewi) (ev_ixN (i := 2) (by walk_at "nm") ev_int rfl rfl)
      | _ => cases ho
  · have hnt : d.isTup = false := by
      cases d with
      | tup xs => exact absurd ⟨xs, rfl⟩ ht
      | _ => rfl
    rw [sale_nt hnt]
    refine exs_cons (ex_then (B1 := B') (Tw.ts (tw_or (k := true) (k' := true) (ts_not (k := false) (ts_val (by rw [← hnt]; exact ev_isi bl (isi_tuple (D.plain.ty hp)) bl.tuple bt_tuple (by walk_at "nm")))) (fun h => nomatch h) fun _ => rfl)) ?_)
    exact exs_one (ex_ret ev_bl ⟨rfl, rfl⟩)
abbrev s_is_log_of : Stmt := topS 17
abbrev n_is_log_of : List Str := ["folk", "top", "thing", "one"]
theorem sc_is_log_of : FnScope n_is_log_of ["folk", "top", "thing"] (defScope s_is_log_of) := ⟨rfl, rfl, rfl, by decide +kernel, rfl, by decide +kernel, by decide +kernel⟩
def C_is_log_of : Con := fun ds B r B' => ∃ (folk : Nat) (top : Int) (d : D) (n : Nat), D.fit n d ∧ ds = [nD folk, .int top, d] ∧ r = .d (.bl (isLogD folk top d)) ∧ B' = B
theorem has_is_log_of {T : Top} {f : Addr} {fd : FuncData} (bl : Bl T) (ms : Mst T) (H : HasFn T 4 "is_sale" C_is_sale) (F : Fun T.K "is_log_of" "is_log_of" s_is_log_of f fd) (hm : T.mg "is_log_of" = some (.ref f)) : HasFn T 5 "is_log_of" C_is_log_of := by
  refine fn_ok F sc_is_log_of hm (F.binds fun _ _ _ _ _ _ us hl => match us, hl with | [_, _, _], _ => rfl) (fun ds B r B' ⟨_, _, _, _, _, h, _⟩ => by rw [h]; rfl) fun ds B r B' ⟨folk, top, d, n, fit, h1, h2, h3⟩ => ?_
  subst h1 h2 h3
  obtain ⟨t1, m1⟩ := ms.sales
  have hp := fit.plain
  by_cases ht : ∃ xs, d = .tup xs
  · obtain ⟨xs, rfl⟩ := ht
    obtain ⟨m, hxl, hxf⟩ := fit_tup fit
    have e : isLogD folk top (.tup xs) = (true && (decide (((xs.length : Nat) : Int) ≤ 8) && (xs.map (saleD folk top)).all id)) := rfl
    rw [e]
    exact exs_one (ex_ret (ev_andP (ev_isi bl (isi_tuple rfl) bl.tuple bt_tuple (by walk_at "nm")) fun _ => ev_andP (ev_cmp c_le (ev_len bl (by walk_at "nm") rfl) (ev_globI rfl m1)) fun _ => ev_one (ev_all bl (ev_lcE (own := [("one", 3)]) id .bl (saleD folk top) xs (by rw [List.map_id]; exact it_seq (by walk_at "nm") rfl) (by walk_at "blk") rfl hxl fun s hs => lcp0 (tg_name (i := 3) (by walk_at "st")) (ev_call H (by show 4 ≤ 4; omega) rfl (evs_cons (by walk_at "nm") (evs_cons (by walk_at "nm") (evs_cons (by walk_at "nm") evs_nil))) ⟨folk, top, s, m, hxf s hs, rfl, rfl, rfl⟩)))) ⟨rfl, rfl⟩)
  · have hnt : d.isTup = false := by
      cases d with
      | tup xs => exact absurd ⟨xs, rfl⟩ ht
      | _ => rfl
    have e : isLogD folk top d = (d.isTup && false) := by
      cases d with
      | tup xs => exact absurd ⟨xs, rfl⟩ ht
      | _ => rfl
    rw [e]
    exact exs_one (ex_ret (ev_andP (ev_isi bl (isi_tuple (D.plain.ty hp)) bl.tuple bt_tuple (by walk_at "nm")) fun h => by rw [hnt] at h; cases h) ⟨rfl, rfl⟩)
/-! ### data of small depth, its texts sound -/
def strk (d : D) : Prop := ∀ s, d = .str s → PySem.PyData.strOk s = true
def OkD : Nat → D → Prop
  | 0, d => d.Scl ∧ strk d
  | n + 1, d => (d.Scl ∧ strk d) ∨ ∃ xs, (d = .tup xs ∨ d = .lst xs) ∧ xs.length ≤ 1000 ∧ ∀ x ∈ xs, OkD n x
theorem OkD.fit : ∀ {n : Nat} {d : D}, OkD n d → D.fit n d
  | 0, _, h => h.1
  | _ + 1, _, .inl h => .inl h.1
  | _ + 1, _, .inr ⟨xs, h, hl, hx⟩ => .inr ⟨xs, h, by omega, fun x hm => (hx x hm).fit⟩
theorem okd_scl {d : D} (h : d.Scl ∧ strk d) : ∃ p, d.py = some p ∧ PyData.canLay0 p = true ∧ p.depth ≤ 1 := by
  obtain ⟨hs, hk⟩ := h
  cases hs with
  | non => exact ⟨.none, by unfold D.py; rfl, by simp [PyData.canLay0], by simp [PyData.depth]⟩
  | bl b => exact ⟨.bool b, by unfold D.py; rfl, by simp [PyData.canLay0], by simp [PyData.depth]⟩
  | int i => exact ⟨.int i, by unfold D.py; rfl, by simp [PyData.canLay0], by simp [PyData.depth]⟩
  | str s => exact ⟨.str s, by unfold D.py; rfl, by unfold PyData.canLay0; exact hk s rfl, by simp [PyData.depth]⟩
theorem okd_pys {n : Nat} (ih : ∀ d, OkD n d → ∃ p, d.py = some p ∧ PyData.canLay0 p = true ∧ p.depth ≤ n + 1) : ∀ xs : List D, (∀ x ∈ xs, OkD n x) → ∃ ps, D.pys xs = some ps ∧ PyData.canLayAll0 ps = true ∧ PyData.depthAll ps ≤ n + 1 ∧ ps.length = xs.length
  | [], _ => ⟨[], by unfold D.pys; rfl, by simp [PyData.canLayAll0], by simp [PyData.depthAll], rfl⟩
  | d :: ds, h => by
    obtain ⟨ps, h1, h2, h3, h4⟩ := okd_pys ih ds fun e he => h e (List.mem_cons_of_mem _ he)
    obtain ⟨p, g1, g2, g3⟩ := ih d (h d List.mem_cons_self)
    refine ⟨p :: ps, ?_, ?_, ?_, by simp [h4]⟩
    · unfold D.pys
      rw [g1, h1]
    · unfold PyData.canLayAll0
      rw [g2, h2]
      rfl
    · unfold PyData.depthAll
      exact Nat.max_le.mpr ⟨g3, h3⟩
theorem OkD.py : ∀ {n : Nat} (d : D), OkD n d → ∃ p, d.py = some p ∧ PyData.canLay0 p = true ∧ p.depth ≤ n + 1
  | 0, d, h => okd_scl h
  | n + 1, d, .inl h => by
    obtain ⟨p, h1, h2, h3⟩ := okd_scl h
    exact ⟨p, h1, h2, by omega⟩
  | n + 1, _, .inr ⟨xs, h, _, hx⟩ => by
    obtain ⟨ps, h1, h2, h3, _⟩ := okd_pys (fun d => OkD.py d) xs hx
    rcases h with rfl | rfl
    · exact ⟨.tuple ps, by unfold D.py; rw [h1]; rfl, by unfold PyData.canLay0; exact h2, by unfold PyData.depth; omega⟩
    · exact ⟨.list ps, by unfold D.py; rw [h1]; rfl, by unfold PyData.canLay0; exact h2, by unfold PyData.depth; omega⟩
theorem OkD.tup {n : Nat} {xs : List D} (h : OkD n (.tup xs)) : ∃ m, n = m + 1 ∧ xs.length ≤ 1000 ∧ ∀ x ∈ xs, OkD m x := by
  cases n with
  | zero => cases h.1
  | succ n =>
    rcases h with h | ⟨ys, h, hl, hx⟩
    · cases h.1
    · rcases h with h | h
      · cases h
        exact ⟨n, rfl, hl, hx⟩
      · cases h
theorem tupnil {n : Nat} {xs : List D} (hn : n ≤ 40) (h : OkD n (.tup xs)) : ∃ ps, (D.tup xs).py = some (.tuple ps) ∧ SeqAt.shaped (.tuple ps) = true ∧ PyData.eqv (.tuple ps) (.tuple ([].map .int)) = decide (xs = []) := by
  obtain ⟨m, rfl, _, hx⟩ := h.tup
  obtain ⟨ps, h1, h2, h3, h4⟩ := okd_pys (fun d => OkD.py d) xs hx
  refine ⟨ps, by unfold D.py; rw [h1]; rfl, ?_, ?_⟩
  · unfold SeqAt.shaped PyData.canLay0 PyData.depth
    rw [h2]
    simp
    omega
  · unfold PyData.eqv
    cases ps with
    | nil =>
      have : xs = [] := List.length_eq_zero_iff.mp h4.symm
      simp [PyData.eqvAll, this]
    | cons p ps =>
      have : xs ≠ [] := fun z => by rw [z] at h4; cases h4
      simp [PyData.eqvAll, this]
theorem c_eqTN {g : G} {n : Nat} {xs : List D} (hn : n ≤ 40) (h : OkD n (.tup xs)) : BinD g (compareOp .Eq) (.tup xs) (.tup []) (.d (.bl (decide (xs = [])))) := by
  obtain ⟨ps, h1, h2, h3⟩ := tupnil hn h
  have z := c_eqD (g := g) h1 (py_tup []) h2 (shaped_tup [])
  have e : PyData.eqv (.tuple ps) (.tuple (([].map fun n : Nat => (n : Int)).map .int)) = decide (xs = []) := h3
  rw [e] at z
  exact z
theorem c_neTN {g : G} {n : Nat} {xs : List D} (hn : n ≤ 40) (h : OkD n (.tup xs)) : BinD g (compareOp .NotEq) (.tup xs) (.tup []) (.d (.bl (!decide (xs = [])))) := by
  obtain ⟨ps, h1, h2, h3⟩ := tupnil hn h
  have z := c_neD (g := g) h1 (py_tup []) h2 (shaped_tup [])
  have e : PyData.eqv (.tuple ps) (.tuple (([].map fun n : Nat => (n : Int)).map .int)) = decide (xs = []) := h3
  rw [e] at z
  exact z
abbrev s__law_in : Stmt := topS 53
abbrev n__law_in : List Str := ["x", "low", "high"]
theorem sc__law_in : FnScope n__law_in ["x", "low", "high"] (defScope s__law_in) := ⟨rfl, rfl, rfl, by decide +kernel, rfl, by decide +kernel, by decide +kernel⟩
def C__law_in : Con := fun ds B r B' => ∃ d a b, d.plain = true ∧ ds = [d, .int a, .int b] ∧ r = .d (.bl (inR d a b)) ∧ B' = B
theorem has__law_in {T : Top} {f : Addr} {fd : FuncData} (bl : Bl T) (F : Fun T.K "_law_in" "_law_in" s__law_in f fd) (hm : T.mg "_law_in" = some (.ref f)) : HasFn T 1 "_law_in" C__law_in := by
  refine fn_ok F sc__law_in hm (F.binds fun _ _ _ _ _ _ us hl => match us, hl with | [_, _, _], _ => rfl) (fun ds B r B' ⟨d, a, b, _, h, _⟩ => by rw [h]; rfl) fun ds B r B' ⟨d, a, b, h1, h2, h3, h4⟩ => ?_
  subst h2 h3 h4
  have e : inR d a b = (d.isInt && (!d.isBl && inR d a b)) := by cases d <;> simp [inR, D.isInt, D.isBl]
  rw [e]
  refine exs_one (ex_ret (ev_andP (ev_isi bl (isi_int (D.plain.ty h1)) bl.int bt_int (by walk_at "nm")) fun k1 => ev_andP (ev_not (ev_isi bl (isi_bool (D.plain.ty h1)) bl.bool bt_bool (by walk_at "nm"))) fun k2 => ev_one ?_) ⟨rfl, rfl⟩)
  obtain ⟨i, rfl⟩ := int_of k1 (by simpa using k2)
  exact ev_chain c_le c_le (by walk_at "nm") (by walk_at "nm") (fun _ => (by walk_at "nm")) fun _ => rfl

/-! ### _law_good says what is_log_of says -/
def goR (folk w : Int) : Int → List D → Bool
  | _, [] => true
  | last, x :: xs => inR x (last + 1) (folk - 1) && (!decide (x.asI = w) && goR folk w x.asI xs)
theorem inR_last {x : D} {last hi : Int} (h : inR x 0 hi = true) : inR x (last + 1) hi = decide (last < x.asI) := by
  cases x with
  | int i =>
    have h2 : (decide (0 ≤ i) && decide (i ≤ hi)) = true := h
    rw [Bool.and_eq_true] at h2
    show (decide (last + 1 ≤ i) && decide (i ≤ hi)) = decide (last < i)
    rw [h2.2, Bool.and_true]
    exact decide_eq_decide.mpr (by omega)
  | _ => cases h
theorem goR_eq (folk w : Int) : ∀ (xs : List D) (last : Int), -1 ≤ last → goR folk w last xs = ((xs.map fun x => inR x 0 (folk - 1)).all id && (riseB (xs.map D.asI) && (!decide (w ∈ xs.map D.asI) && (match xs with | [] => true | x :: _ => decide (last < x.asI)))))
  | [], _, _ => by simp [goR, riseB]
  | [x], last, hl => by
    unfold goR goR
    cases hx : inR x 0 (folk - 1) with
    | false =>
      have : inR x (last + 1) (folk - 1) = false := by
        cases h : inR x (last + 1) (folk - 1) with
        | false => rfl
        | true =>
          obtain ⟨e, a, b⟩ := inR_int h
          rw [e, inR_t (by omega) b] at hx
          cases hx
      simp [this, hx]
    | true =>
      obtain ⟨e, a, b⟩ := inR_int hx
      rw [inR_last hx]
      have e2 : decide (x.asI = w) = decide (w ∈ [x].map D.asI) := decide_eq_decide.mpr (by simp; exact eq_comm)
      rw [e2]
      simp [riseB, hx]
      exact Bool.and_comm _ _
  | x :: y :: xs, last, hl => by
    have ih := goR_eq folk w (y :: xs) x.asI
    unfold goR
    cases hx : inR x 0 (folk - 1) with
    | false =>
      have : inR x (last + 1) (folk - 1) = false := by
        cases h : inR x (last + 1) (folk - 1) with
        | false => rfl
        | true =>
          obtain ⟨e, a, b⟩ := inR_int h
          rw [e, inR_t (by omega) b] at hx
          cases hx
      simp [this, hx]
    | true =>
      obtain ⟨e, a, b⟩ := inR_int hx
      rw [inR_last hx, ih (by omega)]
      have hr : riseB ((x :: y :: xs).map D.asI) = (decide (x.asI < y.asI) && riseB ((y :: xs).map D.asI)) := rfl
      rw [hr]
      have hm : decide (w ∈ (x :: y :: xs).map D.asI) = (decide (x.asI = w) || decide (w ∈ (y :: xs).map D.asI)) := by
        rw [← Bool.decide_or]
        refine decide_eq_decide.mpr ?_
        rw [List.map_cons, List.mem_cons]
        exact or_congr eq_comm Iff.rfl
      rw [hm]
      have ha : ((x :: y :: xs).map fun x => inR x 0 (folk - 1)).all id = ((y :: xs).map fun x => inR x 0 (folk - 1)).all id := by
        rw [List.map_cons, List.all_cons, hx]
        rfl
      rw [ha]
      generalize ((y :: xs).map fun x => inR x 0 (folk - 1)).all id = A
      generalize riseB ((y :: xs).map D.asI) = R
      generalize decide (w ∈ (y :: xs).map D.asI) = M
      generalize decide (x.asI = w) = E
      generalize hL : decide (last < x.asI) = L
      show (L && (!E && (A && (R && (!M && decide (x.asI < y.asI)))))) = (A && (decide (x.asI < y.asI) && R && (!(E || M) && decide (last < x.asI))))
      rw [hL]
      cases L <;> cases E <;> cases A <;> cases R <;> cases M <;> cases decide (x.asI < y.asI) <;> rfl
theorem go_some {folk w : Int} {os : List D} (h : os ≠ []) : goR folk w (-1) os = (someD folk 1 (.tup os) && !decide (w ∈ os.map D.asI)) := by
  rw [goR_eq folk w os (-1) (Int.le_refl _)]
  have e : someD folk 1 (.tup os) = ((os.map fun x => inR x 0 (folk - 1)).all id && riseB (os.map D.asI)) := by
    show (decide ((1 : Int) ≤ (os.length : Nat)) && _) = _
    have := List.length_pos_iff.mpr h
    rw [decide_eq_true (by omega)]
    rfl
  rw [e]
  cases os with
  | nil => exact absurd rfl h
  | cons x xs =>
    show (_ && (_ && (_ && decide (-1 < x.asI)))) = _
    cases ha : ((x :: xs).map fun x => inR x 0 (folk - 1)).all id with
    | false => simp
    | true =>
      have hx : inR x 0 (folk - 1) = true := List.all_eq_true.mp ha _ List.mem_cons_self
      have := (inR_int hx).2.1
      rw [decide_eq_true (show -1 < x.asI by omega), Bool.and_true]
      simp
theorem log_bad {folk top : Int} {xs : List D} {s : D} (hs : s ∈ xs) (h : saleD folk top s = false) : isLogD folk top (.tup xs) = false := by
  show (decide (((xs.length : Nat) : Int) ≤ 8) && (xs.map (saleD folk top)).all id) = false
  have : (xs.map (saleD folk top)).all id = false := List.all_eq_false.mpr ⟨_, List.mem_map.mpr ⟨s, hs, rfl⟩, by rw [h]; exact Bool.false_ne_true⟩
  rw [this, Bool.and_false]
abbrev s__law_good : Stmt := topS 58
abbrev n__law_good : List Str := ["folk1", "top1", "x", "sale", "last", "who"]
theorem sc__law_good : FnScope n__law_good ["folk1", "top1", "x"] (defScope s__law_good) := ⟨rfl, rfl, rfl, by decide +kernel, rfl, by decide +kernel, by decide +kernel⟩
def C__law_good : Con := fun ds B r B' => ∃ (folk : Nat) (top : Int) (d : D) (n : Nat), n ≤ 40 ∧ OkD n d ∧ ds = [nD folk, .int top, d] ∧ r = .d (.bl (isLogD folk top d)) ∧ B' = B
theorem has__law_good {T : Top} {f : Addr} {fd : FuncData} (bl : Bl T) (H : HasFn T 1 "_law_in" C__law_in) (F : Fun T.K "_law_good" "_law_good" s__law_good f fd) (hm : T.mg "_law_good" = some (.ref f)) : HasFn T 2 "_law_good" C__law_good := by
  refine fn_ok F sc__law_good hm (F.binds fun _ _ _ _ _ _ us hl => match us, hl with | [_, _, _], _ => rfl) (fun ds B r B' ⟨_, _, _, _, _, _, h, _⟩ => by rw [h]; rfl) fun ds B r B' ⟨folk, top, d, n, hn, okd, h1, h2, h3⟩ => ?_
  subst h1 h2 h3
  have hp := okd.fit.plain
  have end_ : ∀ {ρ : Rho} {C : Bag} {E : En} {j p q}, E.rt (.d (.bl false)) C → Exs (fnG T n__law_good s__law_good 1) [.Return (some (.Constant (.bool false) j p)) q] ρ C E := fun h => exs_one (ex_ret ev_bl h)
  have fin : isLogD folk top d = false → Res.d (.bl false) = .d (.bl (isLogD folk top d)) := fun h => by rw [h]
  by_cases ht : ∃ xs, d = .tup xs
  · obtain ⟨xs, rfl⟩ := ht
    obtain ⟨m, rfl, hxl, hxo⟩ := okd.tup
    refine exs_cons (ex_if (k := false || decide ((8 : Int) < (xs.length : Nat))) (B1 := B') (Tw.ts (tw_orP (k := false) (ts_not (k := true) (ts_val (ev_isi bl (isi_tuple rfl) bl.tuple bt_tuple (by walk_at "nm")))) fun _ => tw_or1 (ts_cmp c_gt (ev_len bl (by walk_at "nm") rfl) ev_int))) (fun hk => ?_) fun hk => exs_nil ?_)
    · refine end_ ⟨fin ?_, rfl⟩
      have h8 : (8 : Int) < (xs.length : Nat) := by simpa using hk
      show (decide (((xs.length : Nat) : Int) ≤ 8) && _) = false
      rw [decide_eq_false (by omega)]
      rfl
    have h8 : ¬ (8 : Int) < (xs.length : Nat) := by simpa using hk
    let ρ1 : Rho := startR n__law_good [nD folk, .int top, .tup xs]
    have xid : xs = xs.map id := (List.map_id xs).symm
    refine exs_cons (ex_for (B1 := B') (ds := xs) (it_seq (by walk_at "nm") rfl) (fun i ρ C => (∀ s ∈ xs.take i, saleD folk top s = true) ∧ ρ = ρ1 ∧ C = B') ⟨fun s h => (nomatch h), rfl, rfl⟩ (fun i s ρ' C hd ⟨h0, g1, g2⟩ => ?_) fun ρ' C h => ?_)
    · subst g1 g2
      have hs := List.mem_of_getElem? hd
      have hso := hxo s hs
      have hsp := hso.fit.plain
      have ht2 : xs.take (i + 1) = xs.take i ++ [s] := by rw [List.take_succ, hd]; rfl
      refine ⟨_, _, tg_name (i := 3) (by walk_at "st"), ?_⟩
      by_cases hst : ∃ ys, s = .tup ys
      · obtain ⟨ys, rfl⟩ := hst
        obtain ⟨m2, rfl, hyl, hyo⟩ := hso.tup
        refine exs_cons (ex_if (k := false || (!decide (ys.length = 3) || !inR (ys.getD 0 .non) 0 ((folk : Int) - 1))) (B1 := C) (Tw.ts (tw_orP (k := false) (ts_not (k := true) (ts_val (ev_isi bl (isi_tuple rfl) bl.tuple bt_tuple (by walk_at "nm")))) fun _ => tw_orP (ts_cmp c_neN (ev_len bl (by walk_at "nm") rfl) ev_int) fun hk => tw_or1 (ts_not (ts_val (ev_call H (by show 1 ≤ 1; omega) rfl (evs_cons (ev_ixN (i := 0) (by walk_at "nm") ev_int rfl ?get) (evs_cons ev_int (evs_cons (ev_bin b_sub (by walk_at "nm") ev_int) evs_nil))) ⟨_, _, _, ?pl, rfl, rfl, rfl⟩))))) (fun hk => ?bad) fun hk => exs_nil ?good)
        case get =>
          cases ys with
          | nil => exact absurd hk (by simp)
          | cons x xs => rfl
        case pl =>
          cases ys with
          | nil => exact absurd hk (by simp)
          | cons x xs => exact (hyo x List.mem_cons_self).fit.plain
        case bad =>
          refine end_ ⟨fin (log_bad hs ?_), rfl⟩
          by_cases h3 : ys.length = 3
          · match ys, h3 with
            | [w, p, o], _ =>
              have hw : inR w 0 ((folk : Int) - 1) = false := by simpa using hk
              show (inR w 0 ((folk : Int) - 1) && _) = false
              rw [hw]
              rfl
          · exact sale_n3 h3
        case good =>
          have h3 : ys.length = 3 := by simp at hk; exact hk.1
          match ys, h3, hk, hyo, hs, hd, hso, hsp, ht2, hyl with
          | [w, p, o], _, hk, hyo, hs, hd, hso, hsp, ht2, hyl =>
          have hw : inR w 0 ((folk : Int) - 1) = true := by simpa using hk
          have pp := (hyo p (by simp)).fit.plain
          have oo := hyo o (by simp)
          have op := oo.fit.plain
          have es : saleD folk top (.tup [w, p, o]) = (inR p 1 top && (someD folk 1 o && !decide (w.asI ∈ tupI o))) := by
            show (inR w 0 ((folk : Int) - 1) && _) = _
            rw [hw]
            rfl
          obtain ⟨ew, _⟩ := inR_int hw
          by_cases hot : ∃ os, o = .tup os
          · obtain ⟨os, rfl⟩ := hot
            obtain ⟨m3, rfl, hol, hoo⟩ := oo.tup
            refine exs_cons (ex_if (k := !inR p 1 top || (false || decide (os = []))) (B1 := C) (Tw.ts (tw_orP (ts_not (ts_val (ev_call H (by show 1 ≤ 1; omega) rfl (evs_cons (ev_ixN (i := 1) (by walk_at "nm") ev_int rfl rfl) (evs_cons ev_int (evs_cons (by walk_at "nm") evs_nil))) ⟨p, 1, top, pp, rfl, rfl, rfl⟩))) fun _ => tw_orP (k := false) (ts_not (k := true) (ts_val (ev_isi bl (isi_tuple rfl) bl.tuple bt_tuple (ev_ixN (i := 2) (by walk_at "nm") ev_int rfl rfl)))) fun _ => tw_or1 (ts_cmp (c_eqTN (by omega) oo) (ev_ixN (i := 2) (by walk_at "nm") ev_int rfl rfl) (ev_tup evs_nil)))) (fun hk2 => ?bad2) fun hk2 => exs_nil ?good2)
            case bad2 =>
              refine end_ ⟨fin (log_bad hs ?_), rfl⟩
              rw [es]
              cases h1 : inR p 1 top with
              | false => rfl
              | true =>
                rw [h1] at hk2
                have hos : os = [] := by simpa using hk2
                rw [hos]
                rfl
            case good2 =>
              have h1 : inR p 1 top = true := by simp at hk2; exact hk2.1
              have hos : os ≠ [] := by simp at hk2; exact hk2.2
              have es2 : saleD folk top (.tup [w, p, .tup os]) = goR folk w.asI (-1) os := by
                rw [es, h1, go_some hos]
                rfl
              refine exs_cons (ex_set (i := 4) (x := .int (-1)) (B1 := C) (by walk_at "st") (ev_neg ev_int) ?_ (fun _ _ => rfl))
              let ρ2 (a : Int) : Rho := (ρ1.set 3 (.d (.tup [w, p, .tup os]))).set 4 (.d (.int a))
              refine exs_cons (ex_for (B1 := C) (ds := os) (it_seq (x := .tup os) (ev_ixN (i := 2) (by walk_at "nm") ev_int rfl rfl) rfl) (fun j ρ Z => ∃ a, goR folk w.asI (-1) os = goR folk w.asI a (os.drop j) ∧ ρ = ρ2 a ∧ Z = C) ⟨-1, rfl, rfl, rfl⟩ (fun j x ρ' Z hd2 ⟨a, k0, k1, k2⟩ => ?_) fun ρ' Z h => ?_)
              · subst k1 k2
                have hxm := List.mem_of_getElem? hd2
                have hxp := (hoo x hxm).fit.plain
                have hdr : os.drop j = x :: os.drop (j + 1) := by
                  obtain ⟨hl, he⟩ := List.getElem?_eq_some_iff.mp hd2
                  rw [← he, List.getElem_cons_drop]
                have k0' : goR folk w.asI (-1) os = (inR x (a + 1) ((folk : Int) - 1) && (!decide (x.asI = w.asI) && goR folk w.asI x.asI (os.drop (j + 1)))) := by
                  rw [k0, hdr]
                  rfl
                have ewi : w = .int w.asI := ew
                refine ⟨_, _, tg_name (i := 5) (by walk_at "st"), exs_cons (ex_if (k := !inR x (a + 1) ((folk : Int) - 1) || decide (x.asI = w.asI)) (B1 := Z) (Tw.ts (tw_orP (ts_not (ts_val (ev_call H (by show 1 ≤ 1; omega) rfl (evs_cons (by walk_at "nm") (evs_cons (ev_bin b_add (by walk_at "nm") ev_int) (evs_cons (ev_bin b_sub (by walk_at "nm") ev_int) evs_nil))) ⟨x, a + 1, (folk : Int) - 1, hxp, rfl, rfl, rfl⟩))) fun hk3 => tw_or1 (ts_cmp (c_eqI (i := x.asI) (j := w.asI)) (EvR.to (by walk_at "nm") ?xi) (EvR.to (ev_ixN (i := 0) (by walk_at "nm") ev_int rfl rfl) ewi)))) (fun hk3 => ?bad3) fun hk3 => exs_nil ?good3)⟩
                case xi =>
                  have : inR x (a + 1) ((folk : Int) - 1) = true := by simpa using hk3
                  exact (inR_int this).1
                case bad3 =>
                  refine end_ ⟨fin (log_bad hs ?_), rfl⟩
                  rw [es2, k0']
                  cases h1 : inR x (a + 1) ((folk : Int) - 1) with
                  | false => rfl
                  | true =>
                    rw [h1] at hk3
                    have : decide (x.asI = w.asI) = true := by simpa using hk3
                    rw [this]
                    rfl
                case good3 =>
                  have h1 : inR x (a + 1) ((folk : Int) - 1) = true := by simp at hk3; exact hk3.1
                  have h2 : decide (x.asI = w.asI) = false := by simp at hk3; simpa using hk3.2
                  have xi := (inR_int h1).1
                  exact exs_cons (ex_set (i := 4) (x := .int x.asI) (B1 := Z) (by walk_at "st") (EvR.to (by walk_at "nm") xi) (exs_fgt (is := [5]) (exs_nil ⟨x.asI, by rw [k0', h1, h2]; rfl, rfl, rfl⟩)) (fun _ _ => rfl))
              · obtain ⟨a, k0, k1, k2⟩ := h
                subst k1 k2
                rw [List.drop_length] at k0
                refine exs_fgt (is := [3, 4]) (exs_nil ⟨fun s hs' => ?_, rfl, rfl⟩)
                rw [ht2] at hs'
                rcases List.mem_append.mp hs' with h | h
                · exact h0 s h
                · rw [List.mem_singleton.mp h, es2, k0]
                  rfl
          · have hnt : o.isTup = false := by
              cases o with
              | tup xs => exact absurd ⟨xs, rfl⟩ hot
              | _ => rfl
            have hsf : saleD folk top (.tup [w, p, o]) = false := by
              rw [es]
              have : someD folk 1 o = false := by
                cases o with
                | tup xs => exact absurd ⟨xs, rfl⟩ hot
                | _ => rfl
              rw [this, Bool.false_and, Bool.and_false]
            refine exs_cons (ex_if (k := !inR p 1 top || true) (B1 := C) (Tw.ts (tw_orP (ts_not (ts_val (ev_call H (by show 1 ≤ 1; omega) rfl (evs_cons (ev_ixN (i := 1) (by walk_at "nm") ev_int rfl rfl) (evs_cons ev_int (evs_cons (by walk_at "nm") evs_nil))) ⟨p, 1, top, pp, rfl, rfl, rfl⟩))) fun _ => tw_or (k := true) (k' := true) (ts_not (k := false) (ts_val (by rw [← hnt]; exact ev_isi bl (isi_tuple (D.plain.ty op)) bl.tuple bt_tuple (ev_ixN (i := 2) (by walk_at "nm") ev_int rfl rfl)))) (fun h => nomatch h) fun _ => rfl)) (fun hk2 => end_ ⟨fin (log_bad hs hsf), rfl⟩) fun hk2 => by rw [Bool.or_true] at hk2; cases hk2)
      · have hnt : s.isTup = false := by
          cases s with
          | tup xs => exact absurd ⟨xs, rfl⟩ hst
          | _ => rfl
        refine exs_cons (ex_then (B1 := C) (Tw.ts (tw_or (k := true) (k' := true) (ts_not (k := false) (ts_val (by rw [← hnt]; exact ev_isi bl (isi_tuple (D.plain.ty hsp)) bl.tuple bt_tuple (by walk_at "nm")))) (fun h => nomatch h) fun _ => rfl)) ?_)
        exact end_ ⟨fin (log_bad hs (sale_nt hnt)), rfl⟩
    · obtain ⟨h0, g1, g2⟩ := h
      subst g1 g2
      rw [List.take_length] at h0
      have e : isLogD folk top (.tup xs) = true := by
        show (decide (((xs.length : Nat) : Int) ≤ 8) && (xs.map (saleD folk top)).all id) = true
        rw [decide_eq_true (by omega), all_true h0]
        rfl
      rw [e]
      exact exs_one (ex_ret ev_bl ⟨rfl, rfl⟩)
  · have hnt : d.isTup = false := by
      cases d with
      | tup xs => exact absurd ⟨xs, rfl⟩ ht
      | _ => rfl
    refine exs_cons (ex_then (B1 := B') (Tw.ts (tw_or (k := true) (k' := true) (ts_not (k := false) (ts_val (by rw [← hnt]; exact ev_isi bl (isi_tuple (D.plain.ty hp)) bl.tuple bt_tuple (by walk_at "nm")))) (fun h => nomatch h) fun _ => rfl)) ?_)
    refine end_ ⟨fin ?_, rfl⟩
    cases d with
    | tup xs => exact absurd ⟨xs, rfl⟩ ht
    | _ => rfl
/-! ### who is refused: folk, top, log -/
abbrev s_look_at_market : Stmt := topS 16
abbrev n_look_at_market : List Str := ["folk", "top"]
theorem sc_look_at_market : FnScope n_look_at_market ["folk", "top"] (defScope s_look_at_market) := ⟨rfl, rfl, rfl, by decide +kernel, rfl, by decide +kernel, by decide +kernel⟩
def C_look_at_market : Con := fun ds B r B' => ∃ (f t : D), inR f 2 8 = true ∧ inR t 1 1000 = true ∧ ds = [f, t] ∧ r = .d .non ∧ B' = B
theorem inR_plain {d : D} {a b : Int} (h : inR d a b = true) : d.plain = true := by
  rw [(inR_int h).1]
  rfl
theorem has_look_at_market {T : Top} {f : Addr} {fd : FuncData} (ms : Mst T) (H : HasFn T 2 "is_within" C_is_within) (F : Fun T.K "look_at_market" "look_at_market" s_look_at_market f fd) (hm : T.mg "look_at_market" = some (.ref f)) : HasFn T 3 "look_at_market" C_look_at_market := by
  refine fn_ok F sc_look_at_market hm (F.binds fun _ _ _ _ _ _ us hl => match us, hl with | [_, _], _ => rfl) (fun ds B r B' ⟨_, _, _, _, h, _⟩ => by rw [h]; rfl) fun ds B r B' ⟨fo, to, e0, e1, h1, h2, h3⟩ => ?_
  subst h1 h2 h3
  obtain ⟨t1, m1⟩ := ms.folk
  obtain ⟨t2, m2⟩ := ms.top
  refine exs_cons (ex_skip (B1 := B') (ts_not (k := true) (ts_val ?a)) (exs_one (ex_skip (B1 := B') (ts_not (k := true) (ts_val ?b)) ⟨rfl, rfl⟩)))
  · rw [← e0]
    exact ev_call H (by show 2 ≤ 2; omega) rfl (evs_cons (by walk_at "nm") (evs_cons ev_int (evs_cons (ev_globI rfl m1) evs_nil))) ⟨_, _, _, inR_plain e0, rfl, rfl, rfl⟩
  · rw [← e1]
    exact ev_call H (by show 2 ≤ 2; omega) rfl (evs_cons (by walk_at "nm") (evs_cons ev_int (evs_cons (ev_globI rfl m2) evs_nil))) ⟨_, _, _, inR_plain e1, rfl, rfl, rfl⟩
/-- what is no market -/
def NoM (f t : D) (k : Err) : Prop := (inR f 2 8 = false ∧ k = .folk) ∨ (inR f 2 8 = true ∧ inR t 1 1000 = false ∧ k = .top)
def X_market : RCon := fun ds k => ∃ f t, D.plain f = true ∧ D.plain t = true ∧ ds = [f, t] ∧ NoM f t k
theorem hasX_market {T : Top} {er : Err → Addr} (eo : ErOk T er) {f : Addr} {fd : FuncData} (ms : Mst T) (H : HasFn T 2 "is_within" C_is_within) (F : Fun T.K "look_at_market" "look_at_market" s_look_at_market f fd) (hm : T.mg "look_at_market" = some (.ref f)) : HasFnX T er 3 "look_at_market" X_market := by
  refine fnx_ok F sc_look_at_market hm (F.binds fun _ _ _ _ _ _ us hl => match us, hl with | [_, _], _ => rfl) (fun ds k ⟨_, _, _, _, h, _⟩ => by rw [h]; rfl) fun ds k B ⟨fo, to, pf, pt, h1, h⟩ => ?_
  subst h1
  obtain ⟨t1, m1⟩ := ms.folk
  obtain ⟨t2, m2⟩ := ms.top
  rcases h with ⟨h, rfl⟩ | ⟨h, h2, rfl⟩
  · exact exsx_raise (exx_if (k := !inR fo 2 8) (ts_not (ts_val (ev_call H (by show 2 ≤ 2; omega) rfl (evs_cons (by walk_at "nm") (evs_cons ev_int (evs_cons (ev_globI rfl m1) evs_nil))) ⟨_, _, _, pf, rfl, rfl, rfl⟩))) (fun _ => exsx_raise (exx_raise (k := .folk) eo rfl rfl rfl)) fun z => by rw [h] at z; cases z)
  · refine exsx_cons (ex_if (k := !inR fo 2 8) (ts_not (ts_val (ev_call H (by show 2 ≤ 2; omega) rfl (evs_cons (by walk_at "nm") (evs_cons ev_int (evs_cons (ev_globI rfl m1) evs_nil))) ⟨_, _, _, pf, rfl, rfl, rfl⟩))) (fun z => by rw [h] at z; cases z) fun _ => exs_nil ?_)
    exact exsx_raise (exx_if (k := !inR to 1 1000) (ts_not (ts_val (ev_call H (by show 2 ≤ 2; omega) rfl (evs_cons (by walk_at "nm") (evs_cons ev_int (evs_cons (ev_globI rfl m2) evs_nil))) ⟨_, _, _, pt, rfl, rfl, rfl⟩))) (fun _ => exsx_raise (exx_raise (k := .top) eo rfl rfl rfl)) fun z => by rw [h2] at z; cases z)
/-- the first three of a door's arguments are told no log -/
def No3 (f t d : D) (k : Err) : Prop := NoM f t k ∨ ∃ (folk : Nat) (top : Int) (n : Nat), D.fit n d ∧ f = nD folk ∧ t = .int top ∧ inR f 2 8 = true ∧ inR t 1 1000 = true ∧ isLogD folk top d = false ∧ k = .log
abbrev s_look_at : Stmt := topS 19
abbrev n_look_at : List Str := ["folk", "top", "log"]
theorem sc_look_at : FnScope n_look_at ["folk", "top", "log"] (defScope s_look_at) := ⟨rfl, rfl, rfl, by decide +kernel, rfl, by decide +kernel, by decide +kernel⟩
def C_look_at : Con := fun ds B r B' => ∃ (folk : Nat) (top : Int) (d : D) (n : Nat), D.fit n d ∧ inR (nD folk) 2 8 = true ∧ inR (.int top) 1 1000 = true ∧ isLogD folk top d = true ∧ ds = [nD folk, .int top, d] ∧ r = .d .non ∧ B' = B
theorem has_look_at {T : Top} {f : Addr} {fd : FuncData} (H : HasFn T 3 "look_at_market" C_look_at_market) (H2 : HasFn T 5 "is_log_of" C_is_log_of) (F : Fun T.K "look_at" "look_at" s_look_at f fd) (hm : T.mg "look_at" = some (.ref f)) : HasFn T 6 "look_at" C_look_at := by
  refine fn_ok F sc_look_at hm (F.binds fun _ _ _ _ _ _ us hl => match us, hl with | [_, _, _], _ => rfl) (fun ds B r B' ⟨_, _, _, _, _, _, _, _, h, _⟩ => by rw [h]; rfl) fun ds B r B' ⟨folk, top, d, n, fit, e0, e1, e2, h1, h2, h3⟩ => ?_
  subst h1 h2 h3
  refine exs_cons (ex_expr (ev_call H (by show 3 ≤ 5; omega) rfl (evs_cons (by walk_at "nm") (evs_cons (by walk_at "nm") evs_nil)) ⟨_, _, e0, e1, rfl, rfl, rfl⟩) (exs_one (ex_skip (B1 := B') (ts_not (k := true) (ts_val ?_)) ⟨rfl, rfl⟩)))
  rw [← e2]
  exact ev_call H2 (by show 5 ≤ 5; omega) rfl (evs_cons (by walk_at "nm") (evs_cons (by walk_at "nm") (evs_cons (by walk_at "nm") evs_nil))) ⟨_, _, _, n, fit, rfl, rfl, rfl⟩
def X_look_at : RCon := fun ds k => ∃ f t d, D.plain f = true ∧ D.plain t = true ∧ ds = [f, t, d] ∧ No3 f t d k
theorem hasX_look_at {T : Top} {er : Err → Addr} (eo : ErOk T er) {f : Addr} {fd : FuncData} (H : HasFn T 3 "look_at_market" C_look_at_market) (HX : HasFnX T er 3 "look_at_market" X_market) (H2 : HasFn T 5 "is_log_of" C_is_log_of) (F : Fun T.K "look_at" "look_at" s_look_at f fd) (hm : T.mg "look_at" = some (.ref f)) : HasFnX T er 6 "look_at" X_look_at := by
  refine fnx_ok F sc_look_at hm (F.binds fun _ _ _ _ _ _ us hl => match us, hl with | [_, _, _], _ => rfl) (fun ds k ⟨_, _, _, _, _, h, _⟩ => by rw [h]; rfl) fun ds k B ⟨fo, to, d, pf, pt, h1, h⟩ => ?_
  subst h1
  rcases h with h | ⟨folk, top, n, fit, rfl, rfl, e0, e1, e2, rfl⟩
  · exact exsx_raise (exx_expr (evx_call HX (by show 3 ≤ 5; omega) rfl (evs_cons (by walk_at "nm") (evs_cons (by walk_at "nm") evs_nil)) ⟨_, _, pf, pt, rfl, h⟩))
  · refine exsx_cons (ex_expr (ev_call H (by show 3 ≤ 5; omega) rfl (evs_cons (by walk_at "nm") (evs_cons (by walk_at "nm") evs_nil)) ⟨_, _, e0, e1, rfl, rfl, rfl⟩) ?_)
    exact exsx_raise (exx_if (k := !isLogD folk top d) (ts_not (ts_val (ev_call H2 (by show 5 ≤ 5; omega) rfl (evs_cons (by walk_at "nm") (evs_cons (by walk_at "nm") (evs_cons (by walk_at "nm") evs_nil))) ⟨_, _, _, n, fit, rfl, rfl, rfl⟩))) (fun _ => exsx_raise (exx_raise (k := .log) eo rfl rfl rfl)) fun z => by rw [e2] at z; cases z)
abbrev s_is_log : Stmt := topS 18
abbrev n_is_log : List Str := ["folk", "top", "thing"]
theorem sc_is_log : FnScope n_is_log ["folk", "top", "thing"] (defScope s_is_log) := ⟨rfl, rfl, rfl, by decide +kernel, rfl, by decide +kernel, by decide +kernel⟩
def C_is_log : Con := fun ds B r B' => ∃ (folk : Nat) (top : Int) (d : D) (n : Nat), D.fit n d ∧ inR (nD folk) 2 8 = true ∧ inR (.int top) 1 1000 = true ∧ ds = [nD folk, .int top, d] ∧ r = .d (.bl (isLogD folk top d)) ∧ B' = B
theorem has_is_log {T : Top} {f : Addr} {fd : FuncData} (H : HasFn T 3 "look_at_market" C_look_at_market) (H2 : HasFn T 5 "is_log_of" C_is_log_of) (F : Fun T.K "is_log" "is_log" s_is_log f fd) (hm : T.mg "is_log" = some (.ref f)) : HasFn T 6 "is_log" C_is_log := by
  refine fn_ok F sc_is_log hm (F.binds fun _ _ _ _ _ _ us hl => match us, hl with | [_, _, _], _ => rfl) (fun ds B r B' ⟨_, _, _, _, _, _, _, h, _⟩ => by rw [h]; rfl) fun ds B r B' ⟨folk, top, d, n, fit, e0, e1, h1, h2, h3⟩ => ?_
  subst h1 h2 h3
  exact exs_cons (ex_expr (ev_call H (by show 3 ≤ 5; omega) rfl (evs_cons (by walk_at "nm") (evs_cons (by walk_at "nm") evs_nil)) ⟨_, _, e0, e1, rfl, rfl, rfl⟩) (exs_one (ex_ret (ev_call H2 (by show 5 ≤ 5; omega) rfl (evs_cons (by walk_at "nm") (evs_cons (by walk_at "nm") (evs_cons (by walk_at "nm") evs_nil))) ⟨_, _, _, n, fit, rfl, rfl, rfl⟩) ⟨rfl, rfl⟩)))
def X_is_log : RCon := fun ds k => ∃ f t d, D.plain f = true ∧ D.plain t = true ∧ ds = [f, t, d] ∧ NoM f t k
theorem hasX_is_log {T : Top} {er : Err → Addr} (eo : ErOk T er) {f : Addr} {fd : FuncData} (HX : HasFnX T er 3 "look_at_market" X_market) (F : Fun T.K "is_log" "is_log" s_is_log f fd) (hm : T.mg "is_log" = some (.ref f)) : HasFnX T er 6 "is_log" X_is_log := by
  refine fnx_ok F sc_is_log hm (F.binds fun _ _ _ _ _ _ us hl => match us, hl with | [_, _, _], _ => rfl) (fun ds k ⟨_, _, _, _, _, h, _⟩ => by rw [h]; rfl) fun ds k B ⟨fo, to, d, pf, pt, h1, h⟩ => ?_
  subst h1
  exact exsx_raise (exx_expr (evx_call HX (by show 3 ≤ 5; omega) rfl (evs_cons (by walk_at "nm") (evs_cons (by walk_at "nm") evs_nil)) ⟨_, _, pf, pt, rfl, h⟩))
/-! ### the doors -/
theorem Ts.to2 {g : G} {e : Expr} {ρ : Rho} {B B1 : Bag} {k k' : Bool} (h : Ts g e ρ B k B1) (hk : k = k') : Ts g e ρ B k' B1 := hk ▸ h
/-- a log of the market, on the heap as drawn -/
theorem sale_okD {folk : Nat} {top : Int} {s : Sale} (h : SaleOk folk top s) : saleD folk top s.d = true := by
  have e : saleD folk top s.d = (inR (nD s.win) 0 ((folk : Int) - 1) && (inR (.int s.price) 1 top && (someD folk 1 (.tup (s.others.map nD)) && !decide ((s.win : Int) ∈ (s.others.map nD).map D.asI)))) := rfl
  have hm : (s.others.map nD).map D.asI = s.others.map fun n : Nat => (n : Int) := by rw [List.map_map]; rfl
  have g := h.win
  have w1 : inR (nD s.win) 0 ((folk : Int) - 1) = true := inR_t (by omega) (by omega)
  have w2 : inR (.int s.price) 1 top = true := inR_t h.p1 h.pt
  rw [e, w1, w2, hm]
  have h1 : decide ((s.win : Int) ∈ s.others.map fun n : Nat => (n : Int)) = false := decide_eq_false fun z => by
    obtain ⟨n, hn, he⟩ := List.mem_map.mp z
    have : n = s.win := by omega
    exact h.nw (this ▸ hn)
  rw [h1]
  have h2 : someD folk 1 (.tup (s.others.map nD)) = (decide ((1 : Int) ≤ ((s.others.map nD).length : Nat)) && (((s.others.map nD).map fun x => inR x 0 ((folk : Int) - 1)).all id && riseB ((s.others.map nD).map D.asI))) := rfl
  rw [h2, hm]
  have h3 : ((s.others.map nD).map fun x => inR x 0 ((folk : Int) - 1)).all id = true := by
    rw [List.map_map]
    exact all_true fun w hw => by
      have := h.lt w hw
      exact inR_t (i := (w : Nat)) (a := 0) (b := (folk : Int) - 1) (by omega) (by omega)
  have h4 : ∀ os : List Nat, os.Pairwise (· < ·) → riseB (os.map fun n : Nat => (n : Int)) = true := by
    intro os
    induction os with
    | nil => intro _; rfl
    | cons o os ih =>
      intro hp
      obtain ⟨p1, p2⟩ := List.pairwise_cons.mp hp
      cases os with
      | nil => rfl
      | cons o2 os =>
        have := p1 o2 List.mem_cons_self
        show (decide ((o : Int) < (o2 : Int)) && riseB ((o2 :: os).map fun n : Nat => (n : Int))) = true
        rw [ih p2, decide_eq_true (by omega)]
        rfl
  have h5 : (1 : Int) ≤ ((s.others.map nD).length : Nat) := by
    rw [List.length_map]
    have := List.length_pos_iff.mpr h.ne
    omega
  rw [h3, h4 _ h.up, decide_eq_true h5]
  rfl
theorem log_okD {folk : Nat} {top : Int} {l : List Sale} (h : LogOk folk top l) : isLogD folk top (logD l) = true := by
  show (decide ((((l.map Sale.d).length : Nat) : Int) ≤ 8) && ((l.map Sale.d).map (saleD folk top)).all id) = true
  have := h.n8
  rw [decide_eq_true (by rw [List.length_map]; omega), List.map_map]
  rw [show (l.map (saleD folk top ∘ Sale.d)).all id = true from all_true fun s hs => sale_okD (h.ok s hs)]
  rfl
theorem nat_fit (n m : Nat) : D.fit n (nD m) := by
  cases n with
  | zero => exact .int _
  | succ n => exact .inl (.int _)
theorem sale_fit {folk : Nat} {top : Int} {s : Sale} (h : SaleOk folk top s) (hf : folk ≤ 8) : D.fit 2 s.d := .inr ⟨_, .inl rfl, by show 3 ≤ 1000000; omega, fun x hx => by
  have hx : x ∈ [nD s.win, D.int s.price, D.tup (s.others.map nD)] := hx
  simp only [List.mem_cons, List.not_mem_nil, or_false] at hx
  have := h.len
  rcases hx with rfl | rfl | rfl
  · exact .inl (.int _)
  · exact .inl (.int _)
  · exact .inr ⟨_, .inl rfl, by rw [List.length_map]; omega, fun x hx => by
      obtain ⟨n, _, rfl⟩ := List.mem_map.mp hx
      exact .int _⟩⟩
theorem log_fit {folk : Nat} {top : Int} {l : List Sale} (h : LogOk folk top l) : D.fit 3 (logD l) := .inr ⟨_, .inl rfl, by have := h.n8; rw [List.length_map]; omega, fun x hx => by
  obtain ⟨s, hs, rfl⟩ := List.mem_map.mp hx
  exact sale_fit (h.ok s hs) h.f8⟩
theorem folk_inR {folk : Nat} {top : Int} {l : List Sale} (h : LogOk folk top l) : inR (nD folk) 2 8 = true := inR_t (by have := h.f2; omega) (by have := h.f8; omega)
theorem top_inR {folk : Nat} {top : Int} {l : List Sale} (h : LogOk folk top l) : inR (.int top) 1 1000 = true := inR_t h.t1 h.tt
abbrev s_look_at_sale : Stmt := topS 20
abbrev n_look_at_sale : List Str := ["log", "sale"]
theorem sc_look_at_sale : FnScope n_look_at_sale ["log", "sale"] (defScope s_look_at_sale) := ⟨rfl, rfl, rfl, by decide +kernel, rfl, by decide +kernel, by decide +kernel⟩
def C_look_at_sale : Con := fun ds B r B' => ∃ (l : List Sale) (k : Nat), k < l.length ∧ l.length ≤ 8 ∧ ds = [logD l, nD k] ∧ r = .d .non ∧ B' = B
theorem has_look_at_sale {T : Top} {f : Addr} {fd : FuncData} (bl : Bl T) (H : HasFn T 2 "is_within" C_is_within) (F : Fun T.K "look_at_sale" "look_at_sale" s_look_at_sale f fd) (hm : T.mg "look_at_sale" = some (.ref f)) : HasFn T 3 "look_at_sale" C_look_at_sale := by
  refine fn_ok F sc_look_at_sale hm (F.binds fun _ _ _ _ _ _ us hl => match us, hl with | [_, _], _ => rfl) (fun ds B r B' ⟨_, _, _, _, h, _⟩ => by rw [h]; rfl) fun ds B r B' ⟨l, k, hk, h8, h1, h2, h3⟩ => ?_
  subst h1 h2 h3
  have e : inR (nD k) 0 ((((l.map Sale.d).length : Nat) : Int) - 1) = true := inR_t (by omega) (by rw [List.length_map]; omega)
  refine exs_one (ex_skip (B1 := B') (ts_not (k := true) (ts_val ?_)) ⟨rfl, rfl⟩)
  rw [← e]
  exact ev_call H (by show 2 ≤ 2; omega) rfl (evs_cons (by walk_at "nm") (evs_cons ev_int (evs_cons (ev_bin b_sub (ev_len bl (by walk_at "nm") rfl) ev_int) evs_nil))) ⟨_, _, _, rfl, rfl, rfl, rfl⟩
def X_look_at_sale : RCon := fun ds k => ∃ (l : List Sale) (d : D), D.plain d = true ∧ inR d 0 ((l.length : Nat) - 1) = false ∧ ds = [logD l, d] ∧ k = .sale
theorem hasX_look_at_sale {T : Top} {er : Err → Addr} (eo : ErOk T er) {f : Addr} {fd : FuncData} (bl : Bl T) (H : HasFn T 2 "is_within" C_is_within) (F : Fun T.K "look_at_sale" "look_at_sale" s_look_at_sale f fd) (hm : T.mg "look_at_sale" = some (.ref f)) : HasFnX T er 3 "look_at_sale" X_look_at_sale := by
  refine fnx_ok F sc_look_at_sale hm (F.binds fun _ _ _ _ _ _ us hl => match us, hl with | [_, _], _ => rfl) (fun ds k ⟨_, _, _, _, h, _⟩ => by rw [h]; rfl) fun ds k B ⟨l, d, hp, hk, h1, h2⟩ => ?_
  subst h1 h2
  have hk' : inR d 0 ((((l.map Sale.d).length : Nat) : Int) - 1) = false := by rw [List.length_map]; exact hk
  exact exsx_raise (exx_if (k := !inR d 0 ((((l.map Sale.d).length : Nat) : Int) - 1)) (ts_not (ts_val (ev_call H (by show 2 ≤ 2; omega) rfl (evs_cons (by walk_at "nm") (evs_cons ev_int (evs_cons (ev_bin b_sub (ev_len bl (by walk_at "nm") rfl) ev_int) evs_nil))) ⟨_, _, _, hp, rfl, rfl, rfl⟩))) (fun _ => exsx_raise (exx_raise (k := .sale) eo rfl rfl rfl)) fun z => by rw [hk'] at z; cases z)
def X3 : RCon := fun ds k => ∃ f t d, D.plain f = true ∧ D.plain t = true ∧ ds = [f, t, d] ∧ No3 f t d k
def X4 : RCon := fun ds k => ∃ f t d x, D.plain f = true ∧ D.plain t = true ∧ ds = [f, t, d, x] ∧ No3 f t d k
def X5 : RCon := fun ds k => ∃ f t d x y, D.plain f = true ∧ D.plain t = true ∧ ds = [f, t, d, x, y] ∧ No3 f t d k
def X_setters : RCon := fun ds k => X4 ds k ∨ ∃ (folk : Nat) (top : Int) (l : List Sale) (x : D), LogOk folk top l ∧ D.plain x = true ∧ inR x 0 ((l.length : Nat) - 1) = false ∧ ds = [nD folk, .int top, logD l, x] ∧ k = .sale
def X_ways_set : RCon := fun ds k => X5 ds k ∨ (∃ (folk : Nat) (top : Int) (l : List Sale) (x y : D), LogOk folk top l ∧ D.plain x = true ∧ inR x 0 ((l.length : Nat) - 1) = false ∧ ds = [nD folk, .int top, logD l, x, y] ∧ k = .sale) ∨
  ∃ (folk : Nat) (top : Int) (l : List Sale) (at_ : Nat) (s : Sale) (y : D), LogOk folk top l ∧ l[at_]? = some s ∧ D.plain y = true ∧ (inR y 0 ((folk : Nat) - 1) = false ∨ ∃ w : Nat, y = nD w ∧ w ∉ s.others) ∧ ds = [nD folk, .int top, logD l, nD at_, y] ∧ k = .who
def X_next_buyers : RCon := fun ds k => X4 ds k ∨ ∃ (folk : Nat) (top : Int) (l : List Sale) (x : D) (n : Nat), LogOk folk top l ∧ D.fit n x ∧ someD folk 2 x = false ∧ ds = [nD folk, .int top, logD l, x] ∧ k = .next
abbrev s_fits : Stmt := topS 21
abbrev n_fits : List Str := ["folk", "top", "log", "thing", "winner", "price", "others", "one"]
theorem sc_fits : FnScope n_fits ["folk", "top", "log", "thing"] (defScope s_fits) := ⟨rfl, rfl, rfl, by decide +kernel, rfl, by decide +kernel, by decide +kernel⟩
theorem hasX_fits {T : Top} {er : Err → Addr} {f : Addr} {fd : FuncData} (HX : HasFnX T er 6 "look_at" X_look_at) (F : Fun T.K "fits" "fits" s_fits f fd) (hm : T.mg "fits" = some (.ref f)) : HasFnX T er 7 "fits" X4 := by
  refine fnx_ok F sc_fits hm (F.binds fun _ _ _ _ _ _ us hl => match us, hl with | [_, _, _, _], _ => rfl) (fun ds k ⟨_, _, _, _, _, _, h, _⟩ => by rw [h]; rfl) fun ds k B ⟨fo, to, d, x, pf, pt, h1, h⟩ => ?_
  subst h1
  exact exsx_raise (exx_expr (evx_call HX (by show 6 ≤ 6; omega) rfl (evs_cons (by walk_at "nm") (evs_cons (by walk_at "nm") (evs_cons (by walk_at "nm") evs_nil))) ⟨_, _, _, pf, pt, rfl, h⟩))
abbrev s_can_be : Stmt := topS 27
abbrev n_can_be : List Str := ["folk", "top", "log"]
theorem sc_can_be : FnScope n_can_be ["folk", "top", "log"] (defScope s_can_be) := ⟨rfl, rfl, rfl, by decide +kernel, rfl, by decide +kernel, by decide +kernel⟩
theorem hasX_can_be {T : Top} {er : Err → Addr} {f : Addr} {fd : FuncData} (HX : HasFnX T er 6 "look_at" X_look_at) (F : Fun T.K "can_be" "can_be" s_can_be f fd) (hm : T.mg "can_be" = some (.ref f)) : HasFnX T er 7 "can_be" X3 := by
  refine fnx_ok F sc_can_be hm (F.binds fun _ _ _ _ _ _ us hl => match us, hl with | [_, _, _], _ => rfl) (fun ds k ⟨_, _, _, _, _, h, _⟩ => by rw [h]; rfl) fun ds k B ⟨fo, to, d, pf, pt, h1, h⟩ => ?_
  subst h1
  exact exsx_raise (exx_expr (evx_call HX (by show 6 ≤ 6; omega) rfl (evs_cons (by walk_at "nm") (evs_cons (by walk_at "nm") (evs_cons (by walk_at "nm") evs_nil))) ⟨_, _, _, pf, pt, rfl, h⟩))
abbrev s_bar : Stmt := topS 28
abbrev n_bar : List Str := ["folk", "top", "log", "some", "at", "sale", "winner", "price", "others", "there", "other", "less", "losers"]
theorem sc_bar : FnScope n_bar ["folk", "top", "log"] (defScope s_bar) := ⟨rfl, rfl, rfl, by decide +kernel, rfl, by decide +kernel, by decide +kernel⟩
theorem hasX_bar {T : Top} {er : Err → Addr} {f : Addr} {fd : FuncData} (HX : HasFnX T er 6 "look_at" X_look_at) (F : Fun T.K "bar" "bar" s_bar f fd) (hm : T.mg "bar" = some (.ref f)) : HasFnX T er 7 "bar" X3 := by
  refine fnx_ok F sc_bar hm (F.binds fun _ _ _ _ _ _ us hl => match us, hl with | [_, _, _], _ => rfl) (fun ds k ⟨_, _, _, _, _, h, _⟩ => by rw [h]; rfl) fun ds k B ⟨fo, to, d, pf, pt, h1, h⟩ => ?_
  subst h1
  exact exsx_raise (exx_expr (evx_call HX (by show 6 ≤ 6; omega) rfl (evs_cons (by walk_at "nm") (evs_cons (by walk_at "nm") (evs_cons (by walk_at "nm") evs_nil))) ⟨_, _, _, pf, pt, rfl, h⟩))
abbrev s_is_bar : Stmt := topS 29
abbrev n_is_bar : List Str := ["folk", "top", "log", "thing", "last", "bought", "lost"]
theorem sc_is_bar : FnScope n_is_bar ["folk", "top", "log", "thing"] (defScope s_is_bar) := ⟨rfl, rfl, rfl, by decide +kernel, rfl, by decide +kernel, by decide +kernel⟩
theorem hasX_is_bar {T : Top} {er : Err → Addr} {f : Addr} {fd : FuncData} (HX : HasFnX T er 6 "look_at" X_look_at) (F : Fun T.K "is_bar" "is_bar" s_is_bar f fd) (hm : T.mg "is_bar" = some (.ref f)) : HasFnX T er 7 "is_bar" X4 := by
  refine fnx_ok F sc_is_bar hm (F.binds fun _ _ _ _ _ _ us hl => match us, hl with | [_, _, _, _], _ => rfl) (fun ds k ⟨_, _, _, _, _, _, h, _⟩ => by rw [h]; rfl) fun ds k B ⟨fo, to, d, x, pf, pt, h1, h⟩ => ?_
  subst h1
  exact exsx_raise (exx_expr (evx_call HX (by show 6 ≤ 6; omega) rfl (evs_cons (by walk_at "nm") (evs_cons (by walk_at "nm") (evs_cons (by walk_at "nm") evs_nil))) ⟨_, _, _, pf, pt, rfl, h⟩))
abbrev s_worths : Stmt := topS 38
abbrev n_worths : List Str := ["folk", "top", "log", "some", "found", "who", "low", "high"]
theorem sc_worths : FnScope n_worths ["folk", "top", "log"] (defScope s_worths) := ⟨rfl, rfl, rfl, by decide +kernel, rfl, by decide +kernel, by decide +kernel⟩
theorem hasX_worths {T : Top} {er : Err → Addr} {f : Addr} {fd : FuncData} (HX : HasFnX T er 6 "look_at" X_look_at) (F : Fun T.K "worths" "worths" s_worths f fd) (hm : T.mg "worths" = some (.ref f)) : HasFnX T er 7 "worths" X3 := by
  refine fnx_ok F sc_worths hm (F.binds fun _ _ _ _ _ _ us hl => match us, hl with | [_, _, _], _ => rfl) (fun ds k ⟨_, _, _, _, _, h, _⟩ => by rw [h]; rfl) fun ds k B ⟨fo, to, d, pf, pt, h1, h⟩ => ?_
  subst h1
  exact exsx_raise (exx_expr (evx_call HX (by show 6 ≤ 6; omega) rfl (evs_cons (by walk_at "nm") (evs_cons (by walk_at "nm") (evs_cons (by walk_at "nm") evs_nil))) ⟨_, _, _, pf, pt, rfl, h⟩))
abbrev s_how_many : Stmt := topS 36
abbrev n_how_many : List Str := ["folk", "top", "log"]
theorem sc_how_many : FnScope n_how_many ["folk", "top", "log"] (defScope s_how_many) := ⟨rfl, rfl, rfl, by decide +kernel, rfl, by decide +kernel, by decide +kernel⟩
theorem hasX_how_many {T : Top} {er : Err → Addr} {f : Addr} {fd : FuncData} (HX : HasFnX T er 6 "look_at" X_look_at) (F : Fun T.K "how_many" "how_many" s_how_many f fd) (hm : T.mg "how_many" = some (.ref f)) : HasFnX T er 7 "how_many" X3 := by
  refine fnx_ok F sc_how_many hm (F.binds fun _ _ _ _ _ _ us hl => match us, hl with | [_, _, _], _ => rfl) (fun ds k ⟨_, _, _, _, _, h, _⟩ => by rw [h]; rfl) fun ds k B ⟨fo, to, d, pf, pt, h1, h⟩ => ?_
  subst h1
  exact exsx_raise (exx_expr (evx_call HX (by show 6 ≤ 6; omega) rfl (evs_cons (by walk_at "nm") (evs_cons (by walk_at "nm") (evs_cons (by walk_at "nm") evs_nil))) ⟨_, _, _, pf, pt, rfl, h⟩))
abbrev s_setters : Stmt := topS 39
abbrev n_setters : List Str := ["folk", "top", "log", "sale", "some", "can", "who"]
theorem sc_setters : FnScope n_setters ["folk", "top", "log", "sale"] (defScope s_setters) := ⟨rfl, rfl, rfl, by decide +kernel, rfl, by decide +kernel, by decide +kernel⟩
theorem hasX_setters {T : Top} {er : Err → Addr} {f : Addr} {fd : FuncData} (HX : HasFnX T er 6 "look_at" X_look_at) (H : HasFn T 6 "look_at" C_look_at) (HS : HasFnX T er 3 "look_at_sale" X_look_at_sale) (F : Fun T.K "setters" "setters" s_setters f fd) (hm : T.mg "setters" = some (.ref f)) : HasFnX T er 7 "setters" X_setters := by
  refine fnx_ok F sc_setters hm (F.binds fun _ _ _ _ _ _ us hl => match us, hl with | [_, _, _, _], _ => rfl) (fun ds k h => by rcases h with ⟨_, _, _, _, _, _, h, _⟩ | ⟨_, _, _, _, _, _, _, h, _⟩ <;> rw [h] <;> rfl) fun ds k B h => ?_
  rcases h with ⟨fo, to, d, x, pf, pt, h1, h⟩ | ⟨folk, top, l, x, ok, px, hx, h1, rfl⟩
  · subst h1
    exact exsx_raise (exx_expr (evx_call HX (by show 6 ≤ 6; omega) rfl (evs_cons (by walk_at "nm") (evs_cons (by walk_at "nm") (evs_cons (by walk_at "nm") evs_nil))) ⟨_, _, _, pf, pt, rfl, h⟩))
  · subst h1
    refine exsx_cons (ex_expr (ev_call H (by show 6 ≤ 6; omega) rfl (evs_cons (by walk_at "nm") (evs_cons (by walk_at "nm") (evs_cons (by walk_at "nm") evs_nil))) ⟨folk, top, logD l, 3, log_fit ok, folk_inR ok, top_inR ok, log_okD ok, rfl, rfl, rfl⟩) ?_)
    exact exsx_raise (exx_expr (evx_call HS (by show 3 ≤ 6; omega) rfl (evs_cons (by walk_at "nm") (evs_cons (by walk_at "nm") evs_nil)) ⟨l, x, px, hx, rfl, rfl⟩))
abbrev s_ways_set : Stmt := topS 40
abbrev n_ways_set : List Str := ["folk", "top", "log", "sale", "who", "some"]
theorem sc_ways_set : FnScope n_ways_set ["folk", "top", "log", "sale", "who"] (defScope s_ways_set) := ⟨rfl, rfl, rfl, by decide +kernel, rfl, by decide +kernel, by decide +kernel⟩
theorem hasX_ways_set {T : Top} {er : Err → Addr} {f : Addr} {fd : FuncData} (HX : HasFnX T er 6 "look_at" X_look_at) (H : HasFn T 6 "look_at" C_look_at) (HS : HasFnX T er 3 "look_at_sale" X_look_at_sale) (H3 : HasFn T 3 "look_at_sale" C_look_at_sale) (H2 : HasFn T 2 "is_within" C_is_within) (eo : ErOk T er) (F : Fun T.K "ways_set" "ways_set" s_ways_set f fd) (hm : T.mg "ways_set" = some (.ref f)) : HasFnX T er 7 "ways_set" X_ways_set := by
  refine fnx_ok F sc_ways_set hm (F.binds fun _ _ _ _ _ _ us hl => match us, hl with | [_, _, _, _, _], _ => rfl) (fun ds k h => by rcases h with ⟨_, _, _, _, _, _, _, h, _⟩ | ⟨_, _, _, _, _, _, _, _, h, _⟩ | ⟨_, _, _, _, _, _, _, _, _, _, h, _⟩ <;> rw [h] <;> rfl) fun ds k B h => ?_
  rcases h with ⟨fo, to, d, x, y, pf, pt, h1, h⟩ | ⟨folk, top, l, x, y, ok, px, hx, h1, rfl⟩ | ⟨folk, top, l, at_, s, y, ok, hs, py, hy, h1, rfl⟩
  · subst h1
    exact exsx_raise (exx_expr (evx_call HX (by show 6 ≤ 6; omega) rfl (evs_cons (by walk_at "nm") (evs_cons (by walk_at "nm") (evs_cons (by walk_at "nm") evs_nil))) ⟨_, _, _, pf, pt, rfl, h⟩))
  · subst h1
    refine exsx_cons (ex_expr (ev_call H (by show 6 ≤ 6; omega) rfl (evs_cons (by walk_at "nm") (evs_cons (by walk_at "nm") (evs_cons (by walk_at "nm") evs_nil))) ⟨folk, top, logD l, 3, log_fit ok, folk_inR ok, top_inR ok, log_okD ok, rfl, rfl, rfl⟩) ?_)
    exact exsx_raise (exx_expr (evx_call HS (by show 3 ≤ 6; omega) rfl (evs_cons (by walk_at "nm") (evs_cons (by walk_at "nm") evs_nil)) ⟨l, x, px, hx, rfl, rfl⟩))
  · subst h1
    refine exsx_cons (ex_expr (ev_call H (by show 6 ≤ 6; omega) rfl (evs_cons (by walk_at "nm") (evs_cons (by walk_at "nm") (evs_cons (by walk_at "nm") evs_nil))) ⟨folk, top, logD l, 3, log_fit ok, folk_inR ok, top_inR ok, log_okD ok, rfl, rfl, rfl⟩) ?_)
    have hlt := (List.getElem?_eq_some_iff.mp hs).1
    have hgd : (l.map Sale.d)[at_]? = some s.d := by rw [List.getElem?_map, hs]; rfl
    refine exsx_cons (ex_expr (ev_call H3 (by show 3 ≤ 6; omega) rfl (evs_cons (by walk_at "nm") (evs_cons (by walk_at "nm") evs_nil)) ⟨l, at_, hlt, ok.n8, rfl, rfl, rfl⟩) ?_)
    cases hin : inR y 0 ((folk : Int) - 1) with
    | false =>
      refine exsx_raise (exx_if (k := true) (B1 := B) (Tw.ts (tw_or (k := true) (k' := true) (ts_not (k := false) (ts_val ?_)) (fun h => nomatch h) fun _ => rfl)) (fun _ => exsx_raise (exx_raise (k := .who) eo rfl rfl rfl)) fun z => nomatch z)
      rw [← hin]
      exact ev_call H2 (by show 2 ≤ 6; omega) rfl (evs_cons (by walk_at "nm") (evs_cons ev_int (evs_cons (ev_bin b_sub (by walk_at "nm") ev_int) evs_nil))) ⟨_, _, _, py, rfl, rfl, rfl⟩
    | true =>
      rcases hy with z | ⟨w, rfl, hw⟩
      · rw [hin] at z; cases z
      · have e2 : (!decide (w ∈ s.others)) = true := by simp [hw]
        refine exsx_raise (exx_if (k := true) (B1 := B) (Tw.ts (tw_orP (k := false) (k' := true) (ts_not (k := true) (ts_val ?_)) fun _ => tw_or1 (Ts.to2 (ts_cmp (c_notInN (i := w) (ns := s.others) rfl) (by walk_at "nm") (ev_ixN (i := 2) (ev_ixN (i := at_) (by walk_at "nm") (by walk_at "nm") rfl hgd) ev_int rfl rfl)) e2))) (fun _ => exsx_raise (exx_raise (k := .who) eo rfl rfl rfl)) fun z => nomatch z)
        rw [← hin]
        exact ev_call H2 (by show 2 ≤ 6; omega) rfl (evs_cons (by walk_at "nm") (evs_cons ev_int (evs_cons (ev_bin b_sub (by walk_at "nm") ev_int) evs_nil))) ⟨_, _, _, py, rfl, rfl, rfl⟩
abbrev s_gains : Stmt := topS 42
abbrev n_gains : List Str := ["folk", "top", "log", "some", "bought", "paid", "most", "least", "price", "costs", "lot", "who", "sale", "many", "low", "high"]
theorem sc_gains : FnScope n_gains ["folk", "top", "log"] (defScope s_gains) := ⟨rfl, rfl, rfl, by decide +kernel, rfl, by decide +kernel, by decide +kernel⟩
theorem hasX_gains {T : Top} {er : Err → Addr} {f : Addr} {fd : FuncData} (HX : HasFnX T er 6 "look_at" X_look_at) (F : Fun T.K "gains" "gains" s_gains f fd) (hm : T.mg "gains" = some (.ref f)) : HasFnX T er 7 "gains" X3 := by
  refine fnx_ok F sc_gains hm (F.binds fun _ _ _ _ _ _ us hl => match us, hl with | [_, _, _], _ => rfl) (fun ds k ⟨_, _, _, _, _, h, _⟩ => by rw [h]; rfl) fun ds k B ⟨fo, to, d, pf, pt, h1, h⟩ => ?_
  subst h1
  exact exsx_raise (exx_expr (evx_call HX (by show 6 ≤ 6; omega) rfl (evs_cons (by walk_at "nm") (evs_cons (by walk_at "nm") (evs_cons (by walk_at "nm") evs_nil))) ⟨_, _, _, pf, pt, rfl, h⟩))
abbrev s_fewest_setters : Stmt := topS 43
abbrev n_fewest_setters : List Str := ["folk", "top", "log", "some", "good", "lot", "sale", "who"]
theorem sc_fewest_setters : FnScope n_fewest_setters ["folk", "top", "log"] (defScope s_fewest_setters) := ⟨rfl, rfl, rfl, by decide +kernel, rfl, by decide +kernel, by decide +kernel⟩
theorem hasX_fewest_setters {T : Top} {er : Err → Addr} {f : Addr} {fd : FuncData} (HX : HasFnX T er 6 "look_at" X_look_at) (F : Fun T.K "fewest_setters" "fewest_setters" s_fewest_setters f fd) (hm : T.mg "fewest_setters" = some (.ref f)) : HasFnX T er 7 "fewest_setters" X3 := by
  refine fnx_ok F sc_fewest_setters hm (F.binds fun _ _ _ _ _ _ us hl => match us, hl with | [_, _, _], _ => rfl) (fun ds k ⟨_, _, _, _, _, h, _⟩ => by rw [h]; rfl) fun ds k B ⟨fo, to, d, pf, pt, h1, h⟩ => ?_
  subst h1
  exact exsx_raise (exx_expr (evx_call HX (by show 6 ≤ 6; omega) rfl (evs_cons (by walk_at "nm") (evs_cons (by walk_at "nm") (evs_cons (by walk_at "nm") evs_nil))) ⟨_, _, _, pf, pt, rfl, h⟩))
abbrev s_next_buyers : Stmt := topS 46
abbrev n_next_buyers : List Str := ["folk", "top", "log", "asked", "some", "found", "who", "others", "high", "marks", "low", "other", "mark"]
theorem sc_next_buyers : FnScope n_next_buyers ["folk", "top", "log", "asked"] (defScope s_next_buyers) := ⟨rfl, rfl, rfl, by decide +kernel, rfl, by decide +kernel, by decide +kernel⟩
theorem hasX_next_buyers {T : Top} {er : Err → Addr} {f : Addr} {fd : FuncData} (HX : HasFnX T er 6 "look_at" X_look_at) (H : HasFn T 6 "look_at" C_look_at) (H3 : HasFn T 3 "are_some" C_are_some) (eo : ErOk T er) (F : Fun T.K "next_buyers" "next_buyers" s_next_buyers f fd) (hm : T.mg "next_buyers" = some (.ref f)) : HasFnX T er 7 "next_buyers" X_next_buyers := by
  refine fnx_ok F sc_next_buyers hm (F.binds fun _ _ _ _ _ _ us hl => match us, hl with | [_, _, _, _], _ => rfl) (fun ds k h => by rcases h with ⟨_, _, _, _, _, _, h, _⟩ | ⟨_, _, _, _, _, _, _, _, h, _⟩ <;> rw [h] <;> rfl) fun ds k B h => ?_
  rcases h with ⟨fo, to, d, x, pf, pt, h1, h⟩ | ⟨folk, top, l, x, n, ok, fit, hx, h1, rfl⟩
  · subst h1
    exact exsx_raise (exx_expr (evx_call HX (by show 6 ≤ 6; omega) rfl (evs_cons (by walk_at "nm") (evs_cons (by walk_at "nm") (evs_cons (by walk_at "nm") evs_nil))) ⟨_, _, _, pf, pt, rfl, h⟩))
  · subst h1
    refine exsx_cons (ex_expr (ev_call H (by show 6 ≤ 6; omega) rfl (evs_cons (by walk_at "nm") (evs_cons (by walk_at "nm") (evs_cons (by walk_at "nm") evs_nil))) ⟨folk, top, logD l, 3, log_fit ok, folk_inR ok, top_inR ok, log_okD ok, rfl, rfl, rfl⟩) ?_)
    exact exsx_raise (exx_if (k := !someD folk 2 x) (ts_not (ts_val (ev_call H3 (by show 3 ≤ 6; omega) rfl (evs_cons (by walk_at "nm") (evs_cons (by walk_at "nm") (evs_cons ev_int evs_nil))) ⟨folk, x, 2, n, fit, rfl, rfl, rfl⟩))) (fun _ => exsx_raise (exx_raise (k := .next) eo rfl rfl rfl)) fun z => by rw [hx] at z; cases z)
abbrev s_false_ones : Stmt := topS 47
abbrev n_false_ones : List Str := ["folk", "top", "log", "at"]
theorem sc_false_ones : FnScope n_false_ones ["folk", "top", "log"] (defScope s_false_ones) := ⟨rfl, rfl, rfl, by decide +kernel, rfl, by decide +kernel, by decide +kernel⟩
theorem hasX_false_ones {T : Top} {er : Err → Addr} {f : Addr} {fd : FuncData} (HX : HasFnX T er 6 "look_at" X_look_at) (F : Fun T.K "false_ones" "false_ones" s_false_ones f fd) (hm : T.mg "false_ones" = some (.ref f)) : HasFnX T er 7 "false_ones" X3 := by
  refine fnx_ok F sc_false_ones hm (F.binds fun _ _ _ _ _ _ us hl => match us, hl with | [_, _, _], _ => rfl) (fun ds k ⟨_, _, _, _, _, h, _⟩ => by rw [h]; rfl) fun ds k B ⟨fo, to, d, pf, pt, h1, h⟩ => ?_
  subst h1
  exact exsx_raise (exx_expr (evx_call HX (by show 6 ≤ 6; omega) rfl (evs_cons (by walk_at "nm") (evs_cons (by walk_at "nm") (evs_cons (by walk_at "nm") evs_nil))) ⟨_, _, _, pf, pt, rfl, h⟩))
abbrev s__law_kind : Stmt := topS 54
abbrev n__law_kind : List Str := ["e", "some", "words", "word", "good"]
theorem sc__law_kind : FnScope n__law_kind ["e"] (defScope s__law_kind) := ⟨rfl, rfl, rfl, by decide +kernel, rfl, by decide +kernel, by decide +kernel⟩
def bitsE (k : Err) : List Bool := [decide (k = .folk), decide (k = .top), decide (k = .log), decide (k = .sale), decide (k = .who), decide (k = .next)]
def wordsE : List Str := ["NoFolk", "NoTop", "NoLog", "NoSale", "NoWho", "NoNext"]
theorem kind_word (k : Err) : Txt.join "" (selS wordsE (bitsE k)) = k.word := by cases k <;> decide +kernel
/-- what isinstance and except ask of the refusals -/
structure ErIs (T : Top) (er : Err → Addr) : Prop where
  exc : ∀ k, ExcC T.K.fr (er k)
  kit : ∀ k k', PySem.W.kitOne T.K.fr (.ref (er k)) (.ref (er k')) = some (decide (k = k'))
  paid : ∃ c, T.mg "PaidError" = some (.ref c) ∧ ∀ k, PySem.W.exmOne T.K.fr (.ref (er k)) (.ref c) = some true
def sp_kind (er : Err → Addr) : SpP := fun p vs H Q _ => ∃ k, Zc (.ref (er k)) none p.2 ∧ vs = [.ref p.1] ∧ ∀ H', Same H H' → Q (.str k.word) H'
theorem kind_fn {T : Top} {er : Err → Addr} {f : Addr} {fd : FuncData} (bl : Bl T) (eo : ErOk T er) (ei : ErIs T er) (F : Fun T.K "_law_kind" "_law_kind" s__law_kind f fd) : FnP T.P T.w T.K.fr T.mg T.base 1 f fd ["e"] (sp_kind er) := by
  obtain ⟨oc, od, kV, doc, pm, an, cdv, ct, osl, hfd, lk, hcd⟩ := F.ex
  subst hfd
  refine fnp_of lk hcd sc__law_kind (fun p vs H Q E ⟨_, _, h, _⟩ => by rw [h]; rfl) fun A outer s H vs Q E p hot ⟨k, hz, hv, q⟩ => ?_
  subst hv
  obtain ⟨X, eX⟩ : ∃ X, L2H.cxH CX0 T.P T.w T.K.fr T.mg T.base n__law_kind "_law_kind" (defScope s__law_kind) f cdv A outer s H E p = X := ⟨_, rfl⟩
  have hp : p ∈ X.pn := by rw [← eX]; exact List.mem_cons_self
  have hf : ∃ vs, p.2.data = .fields vs := let ⟨_, w, h, _⟩ := hot; ⟨w, h⟩
  have hK : X.K = T.K.fr := by rw [← eX]; rfl
  have hm : X.mg = T.mg := by rw [← eX]; rfl
  have hN : X.N = n__law_kind := by rw [← eX]; rfl
  have hs : X.env.scope = defScope s__law_kind := by rw [← eX]; rfl
  have hA : L2H.Hot1 X.A p := by rw [← eX]; exact hot
  have nd : X.N.Nodup := by rw [hN]; exact sc__law_kind.nd
  have gl : ∀ x, (defScope s__law_kind).names.lookup x = some .globalImplicit → Gl X x := fun x h => by
    show X.env.scope.names.lookup x = _
    rw [hs]; exact h
  have IE : ∀ (k' : Err) (p1 p2 p3 p4 : Pos), (defScope s__law_kind).names.lookup k'.word = some .globalImplicit → (k'.word == ("__debug__" : Str)) = false → PE X (.Call (.Name "isinstance" p1) [.Name "e" p2, .Name k'.word p3] [] p4) (fun σ H Q => σ[0]? = some (some (.ref p.1)) ∧ Q (.bl (decide (k = k'))) H) := fun k' p1 p2 p3 p4 h hd =>
    pe_isP (D := er k) (v := .ref (er k')) (cv := .ref (er k')) (i := 0) hp (by rw [hK]; exact ei.exc k) hz hf (by rw [hN]; rfl) (by rw [hs]; exact .inl rfl) (gl _ rfl) (by rw [hm]; exact bl.isinstance) (gl _ h) (by rw [hm]; exact eo.mg k') rfl (fun u h => h) (by rw [hK]; exact ei.kit k k') hd
  have st : ∀ {i : Nat} {y : Str} {e : Expr} {te : TE} {p1 p2 : Pos}, n__law_kind[i]? = some y → (defScope s__law_kind).names.lookup y = some .local → PE X e te → swapsWith e (some (.Name y p1)) p2.line X.env = pure false → PS X (.Assign [.Name y p1] e p2) (tAsg te (gName i)) := fun {i y e te p1 p2} h1 h2 h3 h4 =>
    ps_set nd (by rw [hN]; exact h1) (.inl (by rw [hs]; exact h2)) h3 h4 (.inr (by rw [hs]; exact h2))
  have vr : ∀ {i : Nat} {y : Str} {p1 : Pos}, n__law_kind[i]? = some y → (defScope s__law_kind).names.lookup y = some .local → (y == ("__debug__" : Str)) = false → (y == ("__classdict__" : Str)) = false → PE X (.Name y p1) (tVar i) := fun {i y p1} h1 h2 h3 h4 => pe_var (by rw [hN]; exact h1) (by rw [hs]; exact .inl h2) h3 h4
  have hot' : ∀ s2 H2 sc e fp, L2H.HotC (hotB X p s2 H2 sc e fp) := fun _ _ _ _ _ => ⟨p, hA, List.mem_cons_self⟩
  have rl : ∀ {y : Str} {sc : Scope} {cl : List (Str × Addr)} {C : Addr}, (relS sc (defScope s__law_kind)).names.lookup y = some .local → (compEnvC sc cl C X.env).scope.names.lookup y = some .local := fun {y sc cl C} h => by
    show (relS sc X.env.scope).names.lookup y = _
    rw [hs]
    exact h
  have gn : ∀ {s2 H2 sc C cl fp} {i : Nat} {y : Str} {p1 : Pos}, n__law_kind[i]? = some y → (relS sc (defScope s__law_kind)).names.lookup y = some .local → PG (hotB X p s2 H2 sc (compEnvC sc cl C X.env) fp) (.Name y p1) (gName i) := fun {s2 H2 sc C cl fp i y p1} h1 h2 =>
    pg_name nd (by show X.N[i]? = _; rw [hN]; exact h1) (.inl (rl h2)) (.inr (rl h2))
  have vb : ∀ {s2 H2 sc C cl fp} {i : Nat} {y : Str} {p1 : Pos}, n__law_kind[i]? = some y → (relS sc (defScope s__law_kind)).names.lookup y = some .local → (y == ("__debug__" : Str)) = false → (y == ("__classdict__" : Str)) = false → PE (hotB X p s2 H2 sc (compEnvC sc cl C X.env) fp) (.Name y p1) (tVar i) := fun {s2 H2 sc C cl fp i y p1} h1 h2 h3 h4 =>
    pe_var (by show X.N[i]? = _; rw [hN]; exact h1) (.inl (rl h2)) h3 h4
  refine ⟨_, PSs.of_cx eX (pss_cons (st (i := 1) rfl rfl (pe_lst (pa_cons (IE .folk _ _ _ _ rfl rfl) (pa_cons (IE .top _ _ _ _ rfl rfl) (pa_cons (IE .log _ _ _ _ rfl rfl) (pa_cons (IE .sale _ _ _ _ rfl rfl) pa_nil))))) rfl) (pss_cons (st (i := 1) rfl rfl (pe_op op_cat (vr (i := 1) rfl rfl rfl rfl) (pe_lst (pa_cons (IE .who _ _ _ _ rfl rfl) (pa_cons (IE .next _ _ _ _ rfl rfl) pa_nil)))) rfl)
    (pss_cons (st (i := 2) rfl rfl (pe_lst (pa_cons pe_str (pa_cons pe_str (pa_cons pe_str (pa_cons pe_str (pa_cons pe_str (pa_cons pe_str pa_nil))))))) rfl) (pss_one (ps_ret (pe_join pe_str (pe_lcH (own := [("word", 3), ("good", 4)]) (g := gTup X.K 2 (gCons (gName 3) (gCons (gName 4) gNil))) hA hp nd (pi_zipH (gl _ rfl) (by rw [hm]; exact bl.zip) (pa_cons (vr (i := 2) rfl rfl rfl rfl) (pa_cons (vr (i := 1) rfl rfl rfl rfl) pa_nil))) (by rw [hN, hs]; exact blkOk_by (by decide +kernel))
      ?_ (fun _ _ _ _ _ => pts_one (pt_val (vb (i := 4) rfl (by decide +kernel) rfl rfl))) (fun _ _ _ _ _ => vb (i := 3) rfl (by decide +kernel) rfl rfl)))))))), ?_⟩
  · intro s2 H2 C cl fp
    exact pg_tupH (hot' _ _ _ _ _) (pgs_cons (gn (i := 3) rfl (by decide +kernel)) (pgs_cons (gn (i := 4) rfl (by decide +kernel)) pgs_nil))
  have lay : ∀ {H : Hp} {a : Addr} {o : HO}, H a = none → Same H (upd H a o) := fun {H a o} n c u e => by rw [upd_ne (ne_of_none e n)]; exact e
  show tAsg _ _ _ [some (.ref p.1), none, none, none, none] H
  refine ⟨rfl, rfl, rfl, rfl, by show 4 ≤ sizeLine; decide, fun p1 n1 => ?_⟩
  refine ⟨.ref p1, rfl, rfl, rfl, by show 2 ≤ sizeLine; decide, fun p2 n2 => ?_⟩
  refine ⟨p1, p2, _, _, rfl, rfl, lay n2 _ _ upd_same, upd_same, by show 4 + 2 ≤ sizeLine; decide, fun p3 n3 => ?_⟩
  refine ⟨by show 6 ≤ sizeLine; decide, fun p4 n4 => ?_⟩
  refine ⟨⟨_, rfl⟩, ?_⟩
  refine words_lc (ws := wordsE) (bs := bitsE k) (a := p4) (b := p3) (x0 := .ref p.1) rfl (by decide) upd_same (lay n4 _ _ upd_same) fun D H' sm hD => ?_
  refine ⟨"", D, selS wordsE (bitsE k), rfl, rfl, .inl (.inl (.inl hD)), by cases k <;> decide +kernel, ?_⟩
  rw [kind_word]
  exact q H' ((((lay n1).trans (lay n2)).trans (lay n3)).trans (lay n4) |>.trans sm)
abbrev s__law_tried : Stmt := topS 55
abbrev n__law_tried : List Str := ["deed", "found", "e"]
theorem sc__law_tried : FnScope n__law_tried ["deed"] (defScope s__law_tried) := ⟨rfl, rfl, rfl, by decide +kernel, rfl, by decide +kernel, by decide +kernel⟩
/-- deed() refuses -/
def C_tried (T : Top) (er : Err → Addr) (j : Nat) : Con := fun ds B r B' => ∃ (L : LamI) (ns : List Str) (xs : List D) (k : Err), DoorX T er j L ns xs k ∧ ds = [.lam L ns xs] ∧ r = .d (.tup [.str k.word]) ∧ B' = B
theorem has_tried {T : Top} {er : Err → Addr} {j : Nat} {f fk : Addr} {fd fdk : FuncData} (bl : Bl T) (eo : ErOk T er) (ei : ErIs T er) (FK : Fun T.K "_law_kind" "_law_kind" s__law_kind fk fdk) (hmk : T.mg "_law_kind" = some (.ref fk))
    (F : Fun T.K "_law_tried" "_law_tried" s__law_tried f fd) (hm : T.mg "_law_tried" = some (.ref f)) : HasFn T (j + 2) "_law_tried" (C_tried T er j) := by
  refine fn_okS F sc__law_tried hm (F.binds fun _ _ _ _ _ _ us hl => match us, hl with | [_], _ => rfl) (fun ds B r B' ⟨_, _, _, _, _, h, _⟩ => by rw [h]; rfl) fun ds B r B' ⟨L, ns, xs, k, hd, h1, h2, h3⟩ X hX hs hf => ?_
  subst h1 h2 h3
  obtain ⟨cp, hp1, hp2⟩ := ei.paid
  have kf := kind_fn bl eo ei FK
  have hbk : Binds T.K fdk ["e"] [] := FK.binds fun _ _ _ _ _ _ us hl => match us, hl with | [_], _ => rfl
  have hmX : X.mg "_law_kind" = some (.ref fk) := by rw [hX.hm]; exact hmk
  have kf' : FnP X.prog X.w X.K X.mg X.base 1 fk fdk ["e"] (sp_kind er) := by rw [hX.hP, hX.hw, hX.hK, hX.hm, hX.hb]; exact kf
  have ret : ∀ {p1 p2 : Pos}, Ex (fnG T n__law_tried s__law_tried (j + 1)) (.Return (some (.Name "found" p1)) p2) [.u, .d (.tup [.str k.word]), .u] B' { nx := fun _ _ => False, rt := fun r' B2 => r' = .d (.tup [.str k.word]) ∧ B2 = B' } := ex_ret (by walk_at "nm") ⟨rfl, rfl⟩
  have nd : X.N.Nodup := by rw [hX.hN]; exact hX.nd
  refine pss_consE ((ex_set (i := 1) (x := .tup [.str "none"]) (B1 := B') (by walk_at "st") (ev_tup (evs_cons ev_str evs_nil)) ?_ (fun _ _ => rfl)).h X hX)
  refine pss_consE (ps_tryX (ie := 2) (cls := .ref (er k)) (B1 := B') (ts := fun a cls d D σ H => ∃ k, cls = .ref (er k) ∧ d = none ∧ σ[2]? = some (some (.ref a)) ∧ ∀ H1, Same H H1 → ∀ p, H1 p = none → D.nx (σ.set 1 (some (.ref p))) (upd H1 p (.tup [.str k.word])))
    hX hs hf rfl rfl rfl rfl hp1 (hp2 k) (exsx_raise (exx_set (i := 1) (by walk_at "st") (evx_tup2 (evx_deed (i := 0) rfl (by walk_at "vis") rfl (Nat.le_refl _) hd)))) (fun a oe cls d pn hz hfd => ?_) fun cc D σ H F a R hl na q1 q2 q3 q4 => ?_)
  · refine pss_one (PS.imp (ps_set (i := 1) (X := X.suite a ((a, oe) :: pn)) nd (by show X.N[1]? = _; rw [hX.hN]; rfl) (by show Loc X.env.scope _; rw [hX.hs]; exact .inl rfl) (pe_tup (pa_cons (pe_callP (X := X.suite a ((a, oe) :: pn)) (p := (a, oe)) kf' ⟨(hX.room.mono (j := 1) (by show 1 ≤ j + 1; omega)).dp, (hX.room.mono (j := 1) (by show 1 ≤ j + 1; omega)).un⟩ ⟨rfl, ?_⟩ List.mem_cons_self ?_ hmX (by rw [hX.hK]; exact FK.kp) (by rw [hX.hK]; exact hbk) (pa_cons (pe_var (i := 2) (by show X.N[2]? = _; rw [hX.hN]; rfl) (by show Vis X.env.scope _; rw [hX.hs]; exact .inl rfl)) pa_nil)) pa_nil)) rfl (.inr (by show X.env.scope.names.lookup _ = _; rw [hX.hs]; rfl))) fun D σ H ⟨k, e1, e2, hσ, q⟩ => ?_)
    · obtain ⟨vs, hv⟩ := hfd
      exact ⟨vs, hv, hz.2.2 vs hv⟩
    · show X.env.scope.names.lookup _ = _
      rw [hX.hs]; rfl
    · have z : Zc (.ref (er k)) none oe := e1 ▸ e2 ▸ hz.zc
      exact ⟨_, hσ, k, z, rfl, fun H1 sm => ⟨by show 1 ≤ sizeLine; decide, fun p np => q H1 sm p np⟩⟩
  · refine ⟨k, rfl, rfl, by rw [List.getElem?_set_self (by rw [hl]; exact (by decide : 2 < 3))], fun H1 sm p np => ?_⟩
    have R1 := R.grow sm (Same.refl F) (R.sub.trans sm) (fun b _ h => h)
    obtain ⟨R2, e2⟩ := R1.new (o := .tup [.str k.word]) np
    have R3 := (R2.set (r := .d (.tup [.str k.word])) (v := .ref p) (.tup (.inl (.inl upd_same)) (by show 1 ≤ sizeLine; decide) (.cons (.str _) .nil)) apart_d 1).fgt1 2
    exact q1 _ _ _ _ _ R3 e2 (pss_one (ret.h X hX))
abbrev s__law_doors : Stmt := topS 60
abbrev n__law_doors : List Str := ["folk1", "top1", "x", "found"]
theorem sc__law_doors : FnScope n__law_doors ["folk1", "top1", "x"] (defScope s__law_doors) := ⟨rfl, rfl, rfl, by decide +kernel, rfl, by decide +kernel, by decide +kernel⟩
abbrev q__law_doors : Str := ("_law_doors" : Str) ++ ".<locals>."
def doorsLam : List LamI := ((defBody s__law_doors).flatMap eltsOf).filterMap (lamO (q__law_doors ++ "<lambda>"))
def doorLv (f t d : D) : List (Str × D) := [("folk1", f), ("top1", t), ("x", d)]
def doorsD (f t d : D) : List D := doorsLam.map (lamD (doorLv f t d))
def C_doors : Con := fun ds B r B' => ∃ f t d, ds = [f, t, d] ∧ r = .d (.lst (doorsD f t d)) ∧ B' = B
theorem has__law_doors {T : Top} {f c P : Addr} {fd : FuncData} (F : FunL T.K.fr "_law_doors" "_law_doors" s__law_doors f fd c) (hm : T.mg "_law_doors" = some (.ref f)) (TB : LamX.TabB T.base T.mg c P) (hT : (P, q__law_doors ++ "<lambda>") ∈ T.K.T) (hu : ∀ p ∈ T.K.T, p.1 = P → p.2 = q__law_doors ++ "<lambda>") : HasFn T 1 "_law_doors" C_doors := by
  refine fn_okG F sc__law_doors hm (F.f.binds fun _ _ _ _ _ _ us hl => match us, hl with | [_, _, _], _ => rfl) (fun ds B r B' ⟨_, _, _, h, _⟩ => by rw [h]; rfl) fun ds B r B' ⟨x, t, d, h1, h2, h3⟩ => ?_
  subst h1 h2 h3
  refine ⟨(defBody s__law_doors).take 5, _, _, doorsD x t d, doorLv x t d, rfl, rfl, fun cl hcf => ?_⟩
  have LM : ∀ {ρ : Rho} {params : Arguments} {body : Expr} {scope : Scope} {pos : Pos}, LamX.lamSB (defScope s__law_doors) scope = true → (∀ env : Env, defaultsOf params env = ([], [])) → Ev (gL T n__law_doors s__law_doors 0 cl q__law_doors c) (.Lambda params body scope pos) ρ B' (.lmv ⟨q__law_doors ++ "<lambda>", params, body, scope⟩ (cloFrom cl scope.names [])) B' := fun {ρ params body scope pos} h hd => ev_lam rfl TB hT hu (LamX.lamS_by h) hd
  have hh : ∀ n ∈ (["x", "top1", "folk1"] : List Str), (∃ a, cl.lookup n = some a) ∧ ∃ y, (doorLv x t d).lookup n = some y := fun n hn => by
    simp only [List.mem_cons, List.not_mem_nil, or_false] at hn
    rcases hn with rfl | rfl | rfl
    · exact ⟨hcf _ rfl, _, rfl⟩
    · exact ⟨hcf _ rfl, _, rfl⟩
    · exact ⟨hcf _ rfl, _, rfl⟩
  refine ⟨_, _, .cons (ex_set (i := 3) (by walk_at "st") (ev_lst (evs_cons (LM rfl fun _ => rfl) (evs_cons (LM rfl fun _ => rfl) (evs_cons (LM rfl fun _ => rfl) evs_nil)))) ⟨rfl, rfl⟩ (fun _ _ => rfl)) (.cons (ex_set (i := 3) (by walk_at "st") (ev_catL (by walk_at "nm") (ev_lst (evs_cons (LM rfl fun _ => rfl) (evs_cons (LM rfl fun _ => rfl) evs_nil))) (Nat.le_of_ble_eq_true rfl)) ⟨rfl, rfl⟩ (fun _ _ => rfl)) (.cons (ex_set (i := 3) (by walk_at "st") (ev_catL (by walk_at "nm") (ev_lst (evs_cons (LM rfl fun _ => rfl) (evs_cons (LM rfl fun _ => rfl) evs_nil))) (Nat.le_of_ble_eq_true rfl)) ⟨rfl, rfl⟩ (fun _ _ => rfl)) (.cons (ex_set (i := 3) (by walk_at "st") (ev_catL (by walk_at "nm") (ev_lst (evs_cons (LM rfl fun _ => rfl) (evs_cons (LM rfl fun _ => rfl) evs_nil))) (Nat.le_of_ble_eq_true rfl)) ⟨rfl, rfl⟩ (fun _ _ => rfl)) (.cons (ex_set (i := 3) (by walk_at "st") (ev_catL (by walk_at "nm") (ev_lst (evs_cons (LM rfl fun _ => rfl) (evs_cons (LM rfl fun _ => rfl) evs_nil))) (Nat.le_of_ble_eq_true rfl)) ⟨rfl, rfl⟩ (fun _ _ => rfl)) .nil)))), ev_catL (by walk_at "nm") (ev_lst (evs_cons (LM rfl fun _ => rfl) evs_nil)) (Nat.le_of_ble_eq_true rfl), ⟨fun q hq => ?_, fun _ => rfl⟩, (by exact .cons (cv_lam (by exact hh)) (.cons (cv_lam (by exact hh)) (.cons (cv_lam (by exact hh)) (.cons (cv_lam (by exact hh)) (.cons (cv_lam (by exact hh)) (.cons (cv_lam (by exact hh)) (.cons (cv_lam (by exact hh)) (.cons (cv_lam (by exact hh)) (.cons (cv_lam (by exact hh)) (.cons (cv_lam (by exact hh)) (.cons (cv_lam (by exact hh)) (.cons (cv_lam (by exact hh)) (.nil)))))))))))))⟩
  · simp only [doorLv, List.mem_cons, List.not_mem_nil, or_false] at hq
    rcases hq with rfl | rfl | rfl
    · exact ⟨0, rfl, rfl, rfl⟩
    · exact ⟨1, rfl, rfl, rfl⟩
    · exact ⟨2, rfl, rfl, rfl⟩
/-- each door refuses -/
abbrev Refuses (T : Top) (er : Err → Addr) (j : Nat) (k : Err) (y : D) : Prop := ∃ L ns xs, y = .lam L ns xs ∧ DoorX T er j L ns xs k
theorem doors_x {T : Top} {er : Err → Addr} (X_fits_ : HasFnX T er 7 "fits" X4) (X_can_be_ : HasFnX T er 7 "can_be" X3) (X_bar_ : HasFnX T er 7 "bar" X3) (X_is_bar_ : HasFnX T er 7 "is_bar" X4) (X_worths_ : HasFnX T er 7 "worths" X3) (X_how_many_ : HasFnX T er 7 "how_many" X3) (X_setters_ : HasFnX T er 7 "setters" X_setters) (X_ways_set_ : HasFnX T er 7 "ways_set" X_ways_set) (X_gains_ : HasFnX T er 7 "gains" X3) (X_fewest_setters_ : HasFnX T er 7 "fewest_setters" X3) (X_next_buyers_ : HasFnX T er 7 "next_buyers" X_next_buyers) (X_false_ones_ : HasFnX T er 7 "false_ones" X3) {f t d : D} {k : Err} (pf : D.plain f = true) (pt : D.plain t = true) (pd : D.plain d = true) (h : No3 f t d k) : AllD (Refuses T er 7 k) (doorsD f t d) := by
  have pl : ∀ y ∈ [d, t, f], D.plain y = true := fun y hy => by
    simp only [List.mem_cons, List.not_mem_nil, or_false] at hy
    rcases hy with rfl | rfl | rfl <;> assumption
  exact ⟨⟨_, _, _, rfl, ⟨⟨rfl, rfl, rfl, by decide +kernel, by decide +kernel, by decide +kernel, fun _ _ _ _ _ => rfl⟩, pl, fun B => evx_call X_fits_ (Nat.le_refl 7) rfl (evs_cons (by walk_at "nm") (evs_cons (by walk_at "nm") (evs_cons (by walk_at "nm") (evs_cons ev_non evs_nil)))) ⟨_, _, _, _, pf, pt, rfl, h⟩⟩⟩,
    ⟨_, _, _, rfl, ⟨⟨rfl, rfl, rfl, by decide +kernel, by decide +kernel, by decide +kernel, fun _ _ _ _ _ => rfl⟩, pl, fun B => evx_call X_can_be_ (Nat.le_refl 7) rfl (evs_cons (by walk_at "nm") (evs_cons (by walk_at "nm") (evs_cons (by walk_at "nm") evs_nil))) ⟨_, _, _, pf, pt, rfl, h⟩⟩⟩,
    ⟨_, _, _, rfl, ⟨⟨rfl, rfl, rfl, by decide +kernel, by decide +kernel, by decide +kernel, fun _ _ _ _ _ => rfl⟩, pl, fun B => evx_call X_bar_ (Nat.le_refl 7) rfl (evs_cons (by walk_at "nm") (evs_cons (by walk_at "nm") (evs_cons (by walk_at "nm") evs_nil))) ⟨_, _, _, pf, pt, rfl, h⟩⟩⟩,
    ⟨_, _, _, rfl, ⟨⟨rfl, rfl, rfl, by decide +kernel, by decide +kernel, by decide +kernel, fun _ _ _ _ _ => rfl⟩, pl, fun B => evx_call X_is_bar_ (Nat.le_refl 7) rfl (evs_cons (by walk_at "nm") (evs_cons (by walk_at "nm") (evs_cons (by walk_at "nm") (evs_cons ev_non evs_nil)))) ⟨_, _, _, _, pf, pt, rfl, h⟩⟩⟩,
    ⟨_, _, _, rfl, ⟨⟨rfl, rfl, rfl, by decide +kernel, by decide +kernel, by decide +kernel, fun _ _ _ _ _ => rfl⟩, pl, fun B => evx_call X_worths_ (Nat.le_refl 7) rfl (evs_cons (by walk_at "nm") (evs_cons (by walk_at "nm") (evs_cons (by walk_at "nm") evs_nil))) ⟨_, _, _, pf, pt, rfl, h⟩⟩⟩,
    ⟨_, _, _, rfl, ⟨⟨rfl, rfl, rfl, by decide +kernel, by decide +kernel, by decide +kernel, fun _ _ _ _ _ => rfl⟩, pl, fun B => evx_call X_how_many_ (Nat.le_refl 7) rfl (evs_cons (by walk_at "nm") (evs_cons (by walk_at "nm") (evs_cons (by walk_at "nm") evs_nil))) ⟨_, _, _, pf, pt, rfl, h⟩⟩⟩,
    ⟨_, _, _, rfl, ⟨⟨rfl, rfl, rfl, by decide +kernel, by decide +kernel, by decide +kernel, fun _ _ _ _ _ => rfl⟩, pl, fun B => evx_call X_setters_ (Nat.le_refl 7) rfl (evs_cons (by walk_at "nm") (evs_cons (by walk_at "nm") (evs_cons (by walk_at "nm") (evs_cons ev_non evs_nil)))) (.inl ⟨_, _, _, _, pf, pt, rfl, h⟩)⟩⟩,
    ⟨_, _, _, rfl, ⟨⟨rfl, rfl, rfl, by decide +kernel, by decide +kernel, by decide +kernel, fun _ _ _ _ _ => rfl⟩, pl, fun B => evx_call X_ways_set_ (Nat.le_refl 7) rfl (evs_cons (by walk_at "nm") (evs_cons (by walk_at "nm") (evs_cons (by walk_at "nm") (evs_cons ev_non (evs_cons ev_non evs_nil))))) (.inl ⟨_, _, _, _, _, pf, pt, rfl, h⟩)⟩⟩,
    ⟨_, _, _, rfl, ⟨⟨rfl, rfl, rfl, by decide +kernel, by decide +kernel, by decide +kernel, fun _ _ _ _ _ => rfl⟩, pl, fun B => evx_call X_gains_ (Nat.le_refl 7) rfl (evs_cons (by walk_at "nm") (evs_cons (by walk_at "nm") (evs_cons (by walk_at "nm") evs_nil))) ⟨_, _, _, pf, pt, rfl, h⟩⟩⟩,
    ⟨_, _, _, rfl, ⟨⟨rfl, rfl, rfl, by decide +kernel, by decide +kernel, by decide +kernel, fun _ _ _ _ _ => rfl⟩, pl, fun B => evx_call X_fewest_setters_ (Nat.le_refl 7) rfl (evs_cons (by walk_at "nm") (evs_cons (by walk_at "nm") (evs_cons (by walk_at "nm") evs_nil))) ⟨_, _, _, pf, pt, rfl, h⟩⟩⟩,
    ⟨_, _, _, rfl, ⟨⟨rfl, rfl, rfl, by decide +kernel, by decide +kernel, by decide +kernel, fun _ _ _ _ _ => rfl⟩, pl, fun B => evx_call X_next_buyers_ (Nat.le_refl 7) rfl (evs_cons (by walk_at "nm") (evs_cons (by walk_at "nm") (evs_cons (by walk_at "nm") (evs_cons ev_non evs_nil)))) (.inl ⟨_, _, _, _, pf, pt, rfl, h⟩)⟩⟩,
    ⟨_, _, _, rfl, ⟨⟨rfl, rfl, rfl, by decide +kernel, by decide +kernel, by decide +kernel, fun _ _ _ _ _ => rfl⟩, pl, fun B => evx_call X_false_ones_ (Nat.le_refl 7) rfl (evs_cons (by walk_at "nm") (evs_cons (by walk_at "nm") (evs_cons (by walk_at "nm") evs_nil))) ⟨_, _, _, pf, pt, rfl, h⟩⟩⟩, trivial⟩
abbrev s__law_refused : Stmt := topS 61
abbrev n__law_refused : List Str := ["doors", "word", "door"]
theorem sc__law_refused : FnScope n__law_refused ["doors", "word"] (defScope s__law_refused) := ⟨rfl, rfl, rfl, by decide +kernel, rfl, by decide +kernel, by decide +kernel⟩
theorem word_ne {g : G} (k : Err) : BinD g (compareOp .NotEq) (.tup [.str k.word]) (.tup [.str k.word]) (.d (.bl false)) := by
  have h := c_neD (g := g) (x := .tup [.str k.word]) (y := .tup [.str k.word]) (px := .tuple [.str k.word]) (py := .tuple [.str k.word]) (by unfold D.py D.pys D.py D.pys; rfl) (by unfold D.py D.pys D.py D.pys; rfl) (by cases k <;> decide +kernel) (by cases k <;> decide +kernel)
  have e : (!PyData.eqv (.tuple [.str k.word]) (.tuple [.str k.word])) = false := by cases k <;> decide +kernel
  rw [e] at h
  exact h
theorem nil_eq {g : G} : BinD g (compareOp .Eq) (.lst []) (.lst []) (.d (.bl true)) := by
  have h := c_eqD (g := g) (x := .lst []) (y := .lst []) (px := .list []) (py := .list []) (by unfold D.py D.pys; rfl) (by unfold D.py D.pys; rfl) (by decide +kernel) (by decide +kernel)
  have e : PyData.eqv (.list []) (.list []) = true := by decide +kernel
  rw [e] at h
  exact h
/-- every door of the list refuses so -/
def C_refused (T : Top) (er : Err → Addr) : Con := fun ds B r B' => ∃ (doors : List D) (k : Err), (∀ y ∈ doors, Refuses T er 7 k y) ∧ doors.length ≤ 1000 ∧ ds = [.lst doors, .str k.word] ∧ r = .d (.bl true) ∧ B' = B
theorem has_refused {T : Top} {er : Err → Addr} {f : Addr} {fd : FuncData} (HT : HasFn T 9 "_law_tried" (C_tried T er 7)) (F : Fun T.K "_law_refused" "_law_refused" s__law_refused f fd) (hm : T.mg "_law_refused" = some (.ref f)) : HasFn T 10 "_law_refused" (C_refused T er) := by
  refine fn_ok F sc__law_refused hm (F.binds fun _ _ _ _ _ _ us hl => match us, hl with | [_, _], _ => rfl) (fun ds B r B' ⟨_, _, _, _, h, _⟩ => by rw [h]; rfl) fun ds B r B' ⟨doors, k, hd, hl, h1, h2, h3⟩ => ?_
  subst h1 h2 h3
  refine exs_one (ex_ret (ev_cmp nil_eq (EvR.to (ev_lcF (own := [("door", 2)]) (fun y : D => y) D.int (fun _ => false) (fun _ => (1 : Int)) doors (it_seq (by walk_at "nm") (by rw [List.map_id']; rfl)) (by walk_at "blk") rfl (by omega) fun y hy => ?_) ?_) (ev_lst evs_nil)) ⟨rfl, rfl⟩)
  · obtain ⟨L, ns, xs, rfl, dx⟩ := hd y hy
    exact lcp1 (tg_name (i := 2) (by walk_at "st")) (ts_cmp (word_ne k) (ev_call HT (by show 9 ≤ 9; omega) rfl (evs_cons (by walk_at "nm") evs_nil) ⟨L, ns, xs, k, dx, rfl, rfl, rfl⟩) (ev_tup (evs_cons (by walk_at "nm") evs_nil))) fun _ => ev_int
  · simp
/-! ### a thing with one place otherwise -/
theorem cutD_to (xs : List D) (k : Nat) : cutD xs none (some (k : Int)) = xs.take k := by
  unfold cutD
  rw [HT.sIx_nat, HT.sIx_none, List.drop_zero, Nat.sub_zero, List.take_eq_take_iff]
  omega
theorem cutD_from (xs : List D) (k : Nat) : cutD xs (some (k : Int)) none = xs.drop k := by
  unfold cutD
  rw [HT.sIx_nat, HT.sIx_none]
  rw [List.take_of_length_le (by rw [List.length_drop]; exact Nat.le_refl _)]
  by_cases h : k ≤ xs.length
  · rw [Nat.min_eq_left h]
  · rw [Nat.min_eq_right (by omega), List.drop_length, List.drop_of_length_le (by omega)]
def asList : D → D
  | .tup xs => .lst xs
  | x => x
def oddTab (x : D) : List D := [.non, .bl true, .bl false, .int (-1), .int 0, .int 1, .int 8, .int 1001, .str "1", .tup [], .tup [.int 0], .tup [.int 0, .int 1, .tup [.int 1]]] ++ [asList x]
def endD (x : D) (B : Bag) : D × Bag := ((oddTab x).getD (takeN B 13) .non, takeB B 13)
def oddD : Nat → D → Bag → D × Bag
  | 0, x, B => endD x B
  | n + 1, x, B => match x with
    | .tup xs => if xs = [] then endD x B else if 0 < takeN B 5 then
        (.tup (xs.take (takeN (takeB B 5) xs.length) ++ [(oddD n (xs.getD (takeN (takeB B 5) xs.length) .non) (takeB (takeB B 5) xs.length)).1] ++ xs.drop (takeN (takeB B 5) xs.length + 1)), (oddD n (xs.getD (takeN (takeB B 5) xs.length) .non) (takeB (takeB B 5) xs.length)).2)
      else endD x (takeB B 5)
    | _ => endD x B
theorem oddTab_len (x : D) : (oddTab x).length = 13 := rfl
theorem oddTab_get (x : D) (B : Bag) : (oddTab x)[takeN B 13]? = some (endD x B).1 := by
  have h : takeN B 13 < (oddTab x).length := by rw [oddTab_len]; exact takeN_lt (by omega)
  show _ = some ((oddTab x).getD (takeN B 13) .non)
  rw [List.getD_eq_getElem?_getD, List.getElem?_eq_getElem h]
  rfl
abbrev s__law_odd : Stmt := topS 59
abbrev n__law_odd : List Str := ["bag", "x", "odd", "k"]
theorem sc__law_odd : FnScope n__law_odd ["bag", "x"] (defScope s__law_odd) := ⟨rfl, rfl, rfl, by decide +kernel, rfl, by decide +kernel, by decide +kernel⟩
theorem odd_tail {T : Top} {j : Nat} {x : D} {B : Bag} {E : En} (bl : Bl T) (H : HasFn T 1 "_law_take" C__law_take) (hj : 1 ≤ j) (hx : x.plain = true) (hB : BagN 1000000000000 B) (h : E.rt (.d (endD x B).1) (endD x B).2) :
    Exs (fnG T n__law_odd s__law_odd j) ((defBody s__law_odd).drop 1) (startR n__law_odd [.bag, x]) B E := by
  refine exs_cons (ex_set (i := 2) (B1 := B) (by walk_at "st") (ev_lst (evs_cons ev_non (evs_cons ev_bl (evs_cons ev_bl (evs_cons (ev_neg ev_int) (evs_cons ev_int (evs_cons ev_int (evs_cons ev_int (evs_cons ev_int (evs_cons ev_str (evs_cons (ev_tup evs_nil) (evs_cons (ev_tup (evs_cons ev_int evs_nil)) (evs_cons (ev_tup (evs_cons ev_int (evs_cons ev_int (evs_cons (ev_tup (evs_cons ev_int evs_nil)) evs_nil)))) evs_nil))))))))))))) ?_ (fun _ _ => rfl))
  refine exs_one (ex_ret (ev_ixN (i := takeN B 13) (x := .lst (oddTab x)) (ev_catL (by walk_at "nm") (ev_lst (evs_cons (ev_if (k := x.isTup) (B1 := B) (ts_val (ev_isi bl (isi_tuple (D.plain.ty hx)) bl.tuple bt_tuple (by walk_at "nm"))) (fun k => ?_) fun k => ?_) evs_nil)) (Nat.le_of_ble_eq_true rfl)) (ev_call H hj rfl (evs_cons (by walk_at "nm") (evs_cons ev_int evs_nil)) ⟨13, by omega, by omega, hB, rfl, rfl, rfl⟩) rfl (oddTab_get x B)) h)
  · cases x with
    | tup xs => exact EvR.fz (ct := .l xs) (ev_callTy (k_list (x := .tup xs) rfl) rfl bl.list bt_list (evs_cons (by walk_at "nm") evs_nil) (by decide) (by decide))
    | _ => cases k
  · cases x with
    | tup xs => cases k
    | _ => exact (by walk_at "nm")
def C__law_odd (n : Nat) : Con := fun ds B r B' => ∃ (x : D) (m : Int), n ≤ 40 ∧ OkD n x ∧ BagN m B ∧ m + 3 * (n : Nat) + 3 ≤ 1000000000000 ∧ ds = [.bag, x] ∧ r = .d (oddD n x B).1 ∧ B' = (oddD n x B).2
/-- nothing to go into -/
theorem odd_flat {T : Top} {j n : Nat} {x : D} {B : Bag} {E : En} (bl : Bl T) (H : HasFn T 1 "_law_take" C__law_take) (hj : 1 ≤ j) (hn : n ≤ 40) (ok : OkD n x) (no : ∀ xs, x = .tup xs → xs = []) (hB : BagN 1000000000000 B) (h : E.rt (.d (endD x B).1) (endD x B).2) :
    Exs (fnG T n__law_odd s__law_odd j) (defBody s__law_odd) (startR n__law_odd [.bag, x]) B E := by
  have hx := ok.fit.plain
  refine exs_cons (ex_if (k := x.isTup && false) (B1 := B) (Tw.ts (tw_andP (ts_val (ev_isi bl (isi_tuple (D.plain.ty hx)) bl.tuple bt_tuple (by walk_at "nm"))) fun h1 => ?_)) (fun z => by rw [Bool.and_false] at z; cases z) fun _ => exs_nil (odd_tail bl H hj hx hB h))
  cases x with
  | tup xs =>
    have e := no xs rfl
    subst e
    exact tw_andP (k := false) (k' := false) (ts_cmp (c_neTN hn ok) (by walk_at "nm") (ev_tup evs_nil)) fun z => nomatch z
  | _ => cases h1
theorem has__law_odd {T : Top} {f : Addr} {fd : FuncData} (bl : Bl T) (H : HasFn T 1 "_law_take" C__law_take) (F : Fun T.K "_law_odd" "_law_odd" s__law_odd f fd) (hm : T.mg "_law_odd" = some (.ref f)) : ∀ n, HasFn T (n + 2) "_law_odd" (C__law_odd n)
  | 0 => by
    refine fn_ok F sc__law_odd hm (F.binds fun _ _ _ _ _ _ us hl => match us, hl with | [_, _], _ => rfl) (fun ds B r B' ⟨_, _, _, _, _, _, h, _⟩ => by rw [h]; rfl) fun ds B r B' ⟨x, m, hn, ok, hB, hm, h1, h2, h3⟩ => ?_
    subst h1 h2 h3
    exact odd_flat bl H (Nat.le_refl _) hn ok (fun xs z => by subst z; cases ok.1) (hB.mono (by omega)) ⟨rfl, rfl⟩
  | n + 1 => by
    have HR := has__law_odd bl H F hm n
    refine fn_ok F sc__law_odd hm (F.binds fun _ _ _ _ _ _ us hl => match us, hl with | [_, _], _ => rfl) (fun ds B r B' ⟨_, _, _, _, _, _, h, _⟩ => by rw [h]; rfl) fun ds B r B' ⟨x, m, hn, ok, hB, hm, h1, h2, h3⟩ => ?_
    subst h1 h2 h3
    by_cases hx : ∃ xs, x = .tup xs ∧ xs ≠ []
    · obtain ⟨xs, rfl, hne⟩ := hx
      obtain ⟨n', e', hl, hxs⟩ := ok.tup
      cases e'
      have hpx := ok.fit.plain
      have hpos : 0 < xs.length := List.length_pos_iff.mpr hne
      have b1 : BagN (m + 1) (takeB B 5) := takeB_ok hB
      have b2 : BagN (m + 2) (takeB (takeB B 5) xs.length) := (takeB_ok b1).mono (by omega)
      refine exs_cons (ex_if (k := true && (true && decide ((0 : Int) < (takeN B 5 : Nat)))) (B1 := takeB B 5) (Tw.ts (tw_and (k := true) (ts_val (ev_isi bl (isi_tuple rfl) bl.tuple bt_tuple (by walk_at "nm"))) (fun _ => tw_and (k := true) ?ne (fun _ => tw_and1 (ts_cmp (c_gt (i := (takeN B 5 : Nat)) (j := 0)) (ev_call H (by show 1 ≤ n + 2; omega) rfl (evs_cons (by walk_at "nm") (evs_cons ev_int evs_nil)) ⟨5, by omega, by omega, hB.mono (by omega), rfl, rfl, rfl⟩) ev_int)) fun z => nomatch z) fun z => nomatch z)) (fun hk => ?_) fun hk => exs_nil ?_)
      case ne =>
        exact Ts.to2 (ts_cmp (c_neTN hn ok) (by walk_at "nm") (ev_tup evs_nil)) (by rw [decide_eq_false hne]; rfl)
      · have hk' : 0 < takeN B 5 := by simpa using hk
        have e : oddD (n + 1) (.tup xs) B = (.tup (xs.take (takeN (takeB B 5) xs.length) ++ [(oddD n (xs.getD (takeN (takeB B 5) xs.length) .non) (takeB (takeB B 5) xs.length)).1] ++ xs.drop (takeN (takeB B 5) xs.length + 1)), (oddD n (xs.getD (takeN (takeB B 5) xs.length) .non) (takeB (takeB B 5) xs.length)).2) := by
          show (if xs = [] then _ else if 0 < takeN B 5 then _ else _) = _
          rw [if_neg hne, if_pos hk']
        rw [e]
        generalize hkk : takeN (takeB B 5) xs.length = k
        have hlt : k < xs.length := by rw [← hkk]; exact takeN_lt hpos
        have hg : xs[k]? = some (xs.getD k .non) := by
          rw [List.getD_eq_getElem?_getD, List.getElem?_eq_getElem hlt]
          rfl
        generalize hy : xs.getD k .non = y at *
        have oky : OkD n y := hxs y (List.mem_of_getElem? hg)
        refine exs_cons (ex_set (i := 3) (x := nD k) (B1 := takeB (takeB B 5) xs.length) (by walk_at "st") (by rw [← hkk]; exact ev_call H (by show 1 ≤ n + 2; omega) rfl (evs_cons (by walk_at "nm") (evs_cons (ev_len bl (by walk_at "nm") rfl) evs_nil)) ⟨xs.length, hpos, by omega, b1.mono (by omega), rfl, rfl, rfl⟩) ?_ (fun _ _ => rfl))
        have sl1 := cutD_to xs k
        have sl2 := cutD_from xs (k + 1)
        rw [← sl1, ← sl2]
        exact exs_one (ex_ret (ev_catT (ev_catT (ev_slT (by walk_at "nm") po_no (po_so (by walk_at "nm"))) (ev_tup (evs_cons (ev_call HR (Nat.le_refl _) rfl (evs_cons (by walk_at "nm") (evs_cons (ev_ixN (i := k) (by walk_at "nm") (by walk_at "nm") rfl hg) evs_nil)) ⟨y, m + 2, by omega, oky, b2, by omega, rfl, rfl, rfl⟩) evs_nil)) (by rw [sl1, List.length_take]; show min k xs.length + 1 ≤ 1000000; omega)) (ev_slT (by walk_at "nm") (po_so (ev_bin b_add (by walk_at "nm") ev_int)) po_no) (by rw [sl1]; show (List.take k xs ++ _).length + (cutD xs (some ((k + 1 : Nat) : Int)) none).length ≤ _; rw [sl2, List.length_append, List.length_take, List.length_drop]; show min k xs.length + 1 + (xs.length - (k + 1)) ≤ 1000000; omega)) ⟨rfl, rfl⟩)
      · have hk' : ¬ 0 < takeN B 5 := by simpa using hk
        have e : oddD (n + 1) (.tup xs) B = endD (.tup xs) (takeB B 5) := by
          show (if xs = [] then _ else if 0 < takeN B 5 then _ else _) = _
          rw [if_neg hne, if_neg hk']
        rw [e]
        exact odd_tail bl H (by omega) hpx (b1.mono (by omega)) ⟨rfl, rfl⟩
    · have no : ∀ xs, x = .tup xs → xs = [] := fun xs z => by
        by_cases h : xs = []
        · exact h
        · exact absurd ⟨xs, z, h⟩ hx
      have e : oddD (n + 1) x B = endD x B := by
        cases x with
        | tup xs =>
          have := no xs rfl
          subst this
          rfl
        | _ => rfl
      rw [e]
      exact odd_flat bl H (by omega) hn ok no (hB.mono (by omega)) ⟨rfl, rfl⟩
/-! what the odd things are like -/
theorem OkD.up {n : Nat} : ∀ {d : D}, OkD n d → OkD (n + 1) d := by
  induction n with
  | zero => exact fun h => .inl h
  | succ n ih =>
    intro d h
    rcases h with h | ⟨xs, e, hl, hx⟩
    · exact .inl h
    · exact .inr ⟨xs, e, hl, fun x hm => ih (hx x hm)⟩
theorem okd_flat {n : Nat} {d : D} (h : d.Scl ∧ strk d) : OkD n d := by
  cases n with
  | zero => exact h
  | succ n => exact .inl h
theorem OkD.le {n m : Nat} (h : n ≤ m) {d : D} (ok : OkD n d) : OkD m d := by
  induction h with
  | refl => exact ok
  | step _ ih => exact ih.up
theorem okd_int {n : Nat} (i : Int) : OkD n (.int i) := okd_flat ⟨.int i, fun _ z => nomatch z⟩
theorem okd_non {n : Nat} : OkD n .non := okd_flat ⟨.non, fun _ z => nomatch z⟩
theorem okd_bl {n : Nat} (b : Bool) : OkD n (.bl b) := okd_flat ⟨.bl b, fun _ z => nomatch z⟩
theorem okd_seq {n : Nat} {xs : List D} (hl : xs.length ≤ 1000) (h : ∀ x ∈ xs, OkD n x) : OkD (n + 1) (.tup xs) := .inr ⟨xs, .inl rfl, hl, h⟩
theorem okd_lst {n : Nat} {xs : List D} (hl : xs.length ≤ 1000) (h : ∀ x ∈ xs, OkD n x) : OkD (n + 1) (.lst xs) := .inr ⟨xs, .inr rfl, hl, h⟩
theorem okd_asList {n : Nat} {x : D} (h : OkD n x) : OkD n (asList x) := by
  cases x with
  | tup xs =>
    obtain ⟨m, rfl, hl, hx⟩ := h.tup
    exact okd_lst hl hx
  | _ => exact h
theorem oddTab_ok {n : Nat} {x y : D} (h : OkD (n + 2) x) (hy : y ∈ oddTab x) : OkD (n + 2) y := by
  have one : OkD 1 (.tup [.int 1]) := okd_seq (by simp) fun x hx => by
    obtain rfl : x = .int 1 := by simpa using hx
    exact okd_int 1
  unfold oddTab at hy
  rcases List.mem_append.mp hy with hy | hy
  · simp only [List.mem_cons, List.not_mem_nil, or_false] at hy
    rcases hy with rfl | rfl | rfl | rfl | rfl | rfl | rfl | rfl | rfl | rfl | rfl | rfl
    · exact okd_non
    · exact okd_bl _
    · exact okd_bl _
    · exact okd_int _
    · exact okd_int _
    · exact okd_int _
    · exact okd_int _
    · exact okd_int _
    · exact okd_flat ⟨.str _, fun s z => by cases z; decide +kernel⟩
    · exact okd_seq (by simp) fun x hx => by cases hx
    · exact okd_seq (by simp) fun x hx => by
        obtain rfl : x = .int 0 := by simpa using hx
        exact okd_int 0
    · refine okd_seq (by simp) fun x hx => ?_
      simp only [List.mem_cons, List.not_mem_nil, or_false] at hx
      rcases hx with rfl | rfl | rfl
      · exact okd_int _
      · exact okd_int _
      · exact one.le (by omega)
  · obtain rfl : y = asList x := by simpa using hy
    exact okd_asList h
theorem endD_ok {n : Nat} {x : D} {B : Bag} (h : OkD (n + 2) x) : OkD (n + 2) (endD x B).1 := oddTab_ok h (List.mem_of_getElem? (oddTab_get x B))
theorem oddD_ok : ∀ (n : Nat) {k : Nat} {x : D} {B : Bag}, OkD (n + k + 2) x → OkD (n + k + 2) (oddD n x B).1
  | 0, k, x, B, h => by
    rw [Nat.zero_add] at *
    exact endD_ok h
  | n + 1, k, x, B, h => by
    have h' : OkD ((n + k + 1) + 2) x := by rw [show n + k + 1 + 2 = n + 1 + k + 2 by omega]; exact h
    have goal : OkD ((n + k + 1) + 2) (oddD (n + 1) x B).1 → OkD (n + 1 + k + 2) (oddD (n + 1) x B).1 := fun z => by rw [show n + 1 + k + 2 = n + k + 1 + 2 by omega]; exact z
    refine goal ?_
    cases x with
    | tup xs =>
      show OkD (n + k + 1 + 2) (if xs = [] then endD (.tup xs) B else if 0 < takeN B 5 then _ else _).1
      split
      · exact endD_ok h'
      · rename_i hne
        split
        · obtain ⟨m, e, hl, hx⟩ := h'.tup
          have em : m = n + k + 2 := by omega
          subst em
          have hlt : takeN (takeB B 5) xs.length < xs.length := takeN_lt (List.length_pos_iff.mpr hne)
          refine okd_seq (n := n + k + 2) ?_ fun y hy => ?_
          · rw [List.length_append, List.length_append, List.length_take, List.length_drop]
            simp
            omega
          · rcases List.mem_append.mp hy with hy | hy
            · rcases List.mem_append.mp hy with hy | hy
              · exact hx y (List.mem_of_mem_take hy)
              · obtain rfl := List.mem_singleton.mp hy
                refine oddD_ok n (hx _ ?_)
                rw [List.getD_eq_getElem?_getD, List.getElem?_eq_getElem hlt]
                exact List.getElem_mem hlt
            · exact hx y (List.mem_of_mem_drop hy)
        · exact endD_ok h'
    | _ => exact endD_ok h'
theorem endD_bag {x : D} {B : Bag} {m : Int} (h : BagN m B) : BagN (m + 1) (endD x B).2 := takeB_ok h
theorem oddD_bag : ∀ (n : Nat) {x : D} {B : Bag} {m : Int}, BagN m B → BagN (m + 3 * (n : Nat) + 3) (oddD n x B).2
  | 0, x, B, m, h => (endD_bag h).mono (by omega)
  | n + 1, x, B, m, h => by
    cases x with
    | tup xs =>
      show BagN _ (if xs = [] then endD (.tup xs) B else if 0 < takeN B 5 then _ else _).2
      split
      · exact (endD_bag h).mono (by omega)
      · split
        · exact (oddD_bag n (takeB_ok (takeB_ok h))).mono (by omega)
        · exact (endD_bag (takeB_ok h)).mono (by omega)
    | _ => exact (endD_bag (x := _) h).mono (by omega)
abbrev s__law_later : Stmt := topS 62
abbrev n__law_later : List Str := ["folk1", "top1", "log1", "odd", "at", "sale", "doors"]
theorem sc__law_later : FnScope n__law_later ["folk1", "top1", "log1"] (defScope s__law_later) := ⟨rfl, rfl, rfl, by decide +kernel, rfl, by decide +kernel, by decide +kernel⟩
abbrev q__law_later : Str := ("_law_later_refused" : Str) ++ ".<locals>."
theorem caps_plain {lv : List (Str × D)} (h : ∀ q ∈ lv, D.plain q.2 = true) (ns : List Str) : ∀ y ∈ ns.map fun n => (lv.lookup n).getD .non, D.plain y = true := fun y hy => by
  obtain ⟨n, _, rfl⟩ := List.mem_map.mp hy
  show D.plain ((lv.lookup n).getD .non) = true
  cases hl : lv.lookup n with
  | none => unfold D.plain D.py; rfl
  | some x => exact h (n, x) (PySem.mem_of_lookup hl)
def C_later : Con := fun ds B r B' => ∃ (folk : Nat) (top : Int) (l : List Sale), LogOk folk top l ∧ ds = [nD folk, .int top, logD l] ∧ r = .d (.bl true) ∧ B' = B
theorem int_plain (i : Int) : D.plain (.int i) = true := by unfold D.plain D.py; rfl
theorem non_plain : D.plain .non = true := by unfold D.plain D.py; rfl
theorem bl_plain (b : Bool) : D.plain (.bl b) = true := by unfold D.plain D.py; rfl
theorem str_plain (b : Str) : D.plain (.str b) = true := by unfold D.plain D.py; rfl
theorem has_later {T : Top} {er : Err → Addr} {f c P : Addr} {fd : FuncData} (bl : Bl T) (HR : HasFn T 10 "_law_refused" (C_refused T er)) (XS : HasFnX T er 7 "setters" X_setters) (XW : HasFnX T er 7 "ways_set" X_ways_set) (XN : HasFnX T er 7 "next_buyers" X_next_buyers)
    (F : FunL T.K.fr "_law_later_refused" "_law_later_refused" s__law_later f fd c) (hm : T.mg "_law_later_refused" = some (.ref f)) (TB : LamX.TabB T.base T.mg c P) (hT : (P, q__law_later ++ "<lambda>") ∈ T.K.T) (hu : ∀ p ∈ T.K.T, p.1 = P → p.2 = q__law_later ++ "<lambda>") : HasFn T 11 "_law_later_refused" C_later := by
  refine fn_okL F sc__law_later hm (F.f.binds fun _ _ _ _ _ _ us hl => match us, hl with | [_, _, _], _ => rfl) (fun ds B r B' ⟨_, _, _, _, h, _⟩ => by rw [h]; rfl) fun ds B r B' ⟨folk, top, l, ok, h1, h2, h3⟩ cl hcf => ?_
  subst h1 h2 h3
  have LM : ∀ {ρ : Rho} {params : Arguments} {body : Expr} {scope : Scope} {pos : Pos}, LamX.lamSB (defScope s__law_later) scope = true → (∀ env : Env, defaultsOf params env = ([], [])) → Ev (gL T n__law_later s__law_later 10 cl q__law_later c) (.Lambda params body scope pos) ρ B' (.lmv ⟨q__law_later ++ "<lambda>", params, body, scope⟩ (cloFrom cl scope.names [])) B' := fun {ρ params body scope pos} h hd => ev_lam rfl TB hT hu (LamX.lamS_by h) hd
  have cl1 : ∀ (lv : List (Str × D)) (ns : List Str), (∀ n ∈ ns, (defScope s__law_later).names.lookup n = some .cell ∧ ∃ x, lv.lookup n = some x) → ∀ n ∈ ns, (∃ a, cl.lookup n = some a) ∧ ∃ x, lv.lookup n = some x := fun lv ns h n hn => ⟨hcf n (h n hn).1, (h n hn).2⟩
  have pf : D.plain (nD folk) = true := int_plain _
  have pt : D.plain (.int top) = true := int_plain _
  have plg : D.plain (logD l) = true := (log_fit ok).plain
  let ρ1 : Rho := [.d (nD folk), .d (.int top), .d (logD l), .u, .u, .u, .u]
  let E : En := { nx := fun _ _ => False, rt := fun r' B2 => r' = .d (.bl true) ∧ B2 = B' }
  let g := gL T n__law_later s__law_later 10 cl q__law_later c
  have odd4 : ∀ (y : D), ∀ n ∈ (["top1", "odd", "log1", "folk1"] : List Str), (defScope s__law_later).names.lookup n = some .cell ∧ ∃ x, ([("folk1", nD folk), ("top1", .int top), ("log1", logD l), ("odd", y)] : List (Str × D)).lookup n = some x := fun y n hn => by
    simp only [List.mem_cons, List.not_mem_nil, or_false] at hn
    rcases hn with rfl | rfl | rfl | rfl <;> exact ⟨rfl, _, rfl⟩
  have pl4 : ∀ (y : D), D.plain y = true → ∀ q ∈ ([("folk1", nD folk), ("top1", .int top), ("log1", logD l), ("odd", y)] : List (Str × D)), D.plain q.2 = true := fun y hy q hq => by
    simp only [List.mem_cons, List.not_mem_nil, or_false] at hq
    rcases hq with rfl | rfl | rfl | rfl <;> assumption
  refine exs_cons (ex_for (B1 := B') (it_seq (ev_lst (evs_cons ev_non (evs_cons ev_bl (evs_cons (ev_neg ev_int) (evs_cons (ev_len bl (by walk_at "nm") rfl) (evs_cons ev_str evs_nil)))))) rfl) (fun _ ρ C => ρ = ρ1 ∧ C = B') ⟨rfl, rfl⟩ (fun i y ρ' C hd ⟨g1, g2⟩ => ?_) fun ρ' C ⟨g1, g2⟩ => ?_)
  · subst g1 g2
    have hy : y ∈ [D.non, .bl true, .int (-1), .int ((l.map Sale.d).length : Nat), .str "0"] := List.mem_of_getElem? hd
    have hp : D.plain y = true ∧ inR y 0 ((l.length : Nat) - 1) = false := by
      rw [List.length_map] at hy
      simp only [List.mem_cons, List.not_mem_nil, or_false] at hy
      rcases hy with rfl | rfl | rfl | rfl | rfl
      · exact ⟨non_plain, rfl⟩
      · exact ⟨bl_plain _, rfl⟩
      · exact ⟨int_plain _, rfl⟩
      · exact ⟨int_plain _, by show (decide (0 ≤ ((l.length : Nat) : Int)) && decide (((l.length : Nat) : Int) ≤ (l.length : Nat) - 1)) = false; rw [decide_eq_false (show ¬ ((l.length : Nat) : Int) ≤ (l.length : Nat) - 1 by omega), Bool.and_false]⟩
      · exact ⟨str_plain _, rfl⟩
    obtain ⟨py, ny⟩ := hp
    refine ⟨_, _, tg_name (i := 3) (by walk_at "st"), ?_⟩
    refine exs_cons (ex_set (i := 6) (B1 := C) (by walk_at "st") (ev_lst (evs_cons (LM rfl fun _ => rfl) (evs_cons (LM rfl fun _ => rfl) evs_nil))) ?_ (fun _ _ => rfl))
    refine exs_cons (ex_skip (B1 := C) (ts_not (k := true) (ts_val (ev_callL (lv := [("folk1", nD folk), ("top1", .int top), ("log1", logD l), ("odd", y)]) HR (Nat.le_refl 10) rfl rfl ⟨fun q hq => ?lv, fun _ => rfl⟩ (evs_cons (by walk_at "nm") (evs_cons ev_str evs_nil)) (by exact .cons (.lst (.cons (cv_lam (by exact cl1 _ _ (odd4 y))) (.cons (cv_lam (by exact cl1 _ _ (odd4 y))) .nil))) (.cons (.same _) .nil)) ⟨_, .sale, AllD.mem ?ab, by simp, rfl, rfl, rfl⟩))) (exs_fgt (is := [3, 6]) (exs_nil ⟨rfl, rfl⟩)))
    case lv =>
      simp only [List.mem_cons, List.not_mem_nil, or_false] at hq
      rcases hq with rfl | rfl | rfl | rfl
      · exact ⟨0, rfl, rfl, rfl⟩
      · exact ⟨1, rfl, rfl, rfl⟩
      · exact ⟨2, rfl, rfl, rfl⟩
      · exact ⟨3, rfl, rfl, rfl⟩
    case ab => exact ⟨⟨_, _, _, rfl, ⟨⟨rfl, rfl, rfl, by decide +kernel, by decide +kernel, by decide +kernel, fun _ _ _ _ _ => rfl⟩, caps_plain (pl4 y py) _, fun B => evx_call XS (Nat.le_refl 7) rfl (evs_cons (by walk_at "nm") (evs_cons (by walk_at "nm") (evs_cons (by walk_at "nm") (evs_cons (by walk_at "nm") evs_nil)))) (.inr ⟨folk, top, l, y, ok, py, ny, rfl, rfl⟩)⟩⟩,
      ⟨_, _, _, rfl, ⟨⟨rfl, rfl, rfl, by decide +kernel, by decide +kernel, by decide +kernel, fun _ _ _ _ _ => rfl⟩, caps_plain (pl4 y py) _, fun B => evx_call XW (Nat.le_refl 7) rfl (evs_cons (by walk_at "nm") (evs_cons (by walk_at "nm") (evs_cons (by walk_at "nm") (evs_cons (by walk_at "nm") (evs_cons ev_non evs_nil))))) (.inr (.inl ⟨folk, top, l, y, .non, ok, py, ny, rfl, rfl⟩))⟩⟩, trivial⟩
  subst g1 g2
  refine exs_cons (ex_for (B1 := C) (it_seq (ev_lst (evs_cons ev_non (evs_cons (ev_tup evs_nil) (evs_cons (ev_tup (evs_cons ev_int evs_nil)) (evs_cons (ev_lst (evs_cons ev_int (evs_cons ev_int evs_nil))) (evs_cons (ev_tup (evs_cons ev_int (evs_cons ev_int evs_nil))) (evs_cons (ev_tup (evs_cons ev_int (evs_cons ev_int evs_nil))) (evs_cons (ev_tup (evs_cons ev_int (evs_cons (by walk_at "nm") evs_nil))) (evs_cons (ev_tup (evs_cons ev_int (evs_cons ev_bl evs_nil))) evs_nil))))))))) rfl) (fun _ ρ Z => ρ = ρ1 ∧ Z = C) ⟨rfl, rfl⟩ (fun i y ρ' Z hd ⟨g1, g2⟩ => ?_) fun ρ' Z ⟨g1, g2⟩ => ?_)
  · subst g1 g2
    have hy : y ∈ [D.non, .tup [], .tup [.int 0], .lst [.int 0, .int 1], .tup [.int 1, .int 0], .tup [.int 0, .int 0], .tup [.int 0, nD folk], .tup [.int 0, .bl true]] := List.mem_of_getElem? hd
    have hp : D.fit 1 y ∧ someD folk 2 y = false := by
      have two : ∀ a b : D, a.Scl → b.Scl → D.fit 1 (.tup [a, b]) := fun a b h1 h2 => .inr ⟨_, .inl rfl, by show 2 ≤ 1000000; omega, fun x hx => by
        simp only [List.mem_cons, List.not_mem_nil, or_false] at hx
        rcases hx with rfl | rfl <;> assumption⟩
      simp only [List.mem_cons, List.not_mem_nil, or_false] at hy
      rcases hy with rfl | rfl | rfl | rfl | rfl | rfl | rfl | rfl
      · exact ⟨.inl .non, rfl⟩
      · exact ⟨.inr ⟨_, .inl rfl, by show 0 ≤ 1000000; omega, fun x hx => by cases hx⟩, rfl⟩
      · exact ⟨.inr ⟨_, .inl rfl, by show 1 ≤ 1000000; omega, fun x hx => by
          obtain rfl : x = D.int 0 := by simpa using hx
          exact .int 0⟩, rfl⟩
      · refine ⟨.inr ⟨_, .inr rfl, by show 2 ≤ 1000000; omega, fun x hx => ?_⟩, rfl⟩
        simp only [List.mem_cons, List.not_mem_nil, or_false] at hx
        rcases hx with rfl | rfl
        · exact .int 0
        · exact .int 1
      · exact ⟨two _ _ (.int 1) (.int 0), by simp [someD, riseB, D.asI]⟩
      · exact ⟨two _ _ (.int 0) (.int 0), by simp [someD, riseB, D.asI]⟩
      · refine ⟨two _ _ (.int 0) (.int _), ?_⟩
        have h : inR (nD folk) 0 ((folk : Int) - 1) = false := by
          show (decide (0 ≤ ((folk : Nat) : Int)) && decide (((folk : Nat) : Int) ≤ (folk : Nat) - 1)) = false
          rw [decide_eq_false (show ¬ ((folk : Nat) : Int) ≤ (folk : Nat) - 1 by omega), Bool.and_false]
        simp [someD, h]
      · exact ⟨two _ _ (.int 0) (.bl true), by simp [someD, inR]⟩
    obtain ⟨fy, ny⟩ := hp
    have py := fy.plain
    refine ⟨_, _, tg_name (i := 3) (by walk_at "st"), ?_⟩
    refine exs_cons (ex_skip (B1 := Z) (ts_not (k := true) (ts_val (ev_callL (lv := [("folk1", nD folk), ("top1", .int top), ("log1", logD l), ("odd", y)]) HR (Nat.le_refl 10) rfl rfl ⟨fun q hq => ?lv2, fun _ => rfl⟩ (evs_cons (ev_lst (evs_cons (LM rfl fun _ => rfl) evs_nil)) (evs_cons ev_str evs_nil)) (by exact .cons (.lst (.cons (cv_lam (by exact cl1 _ _ (odd4 y))) .nil)) (.cons (.same _) .nil)) ⟨_, .next, AllD.mem ?ab2, by simp, rfl, rfl, rfl⟩))) (exs_fgt (is := [3]) (exs_nil ⟨rfl, rfl⟩)))
    case lv2 =>
      simp only [List.mem_cons, List.not_mem_nil, or_false] at hq
      rcases hq with rfl | rfl | rfl | rfl
      · exact ⟨0, rfl, rfl, rfl⟩
      · exact ⟨1, rfl, rfl, rfl⟩
      · exact ⟨2, rfl, rfl, rfl⟩
      · exact ⟨3, rfl, rfl, rfl⟩
    case ab2 => exact ⟨⟨_, _, _, rfl, ⟨⟨rfl, rfl, rfl, by decide +kernel, by decide +kernel, by decide +kernel, fun _ _ _ _ _ => rfl⟩, caps_plain (pl4 y py) _, fun B => evx_call XN (Nat.le_refl 7) rfl (evs_cons (by walk_at "nm") (evs_cons (by walk_at "nm") (evs_cons (by walk_at "nm") (evs_cons (by walk_at "nm") evs_nil)))) (.inr ⟨folk, top, l, y, 1, ok, fy, ny, rfl, rfl⟩)⟩⟩, trivial⟩
  subst g1 g2
  have odd5 : ∀ (i : Nat) (y : D), ∀ n ∈ (["top1", "odd", "log1", "folk1", "at"] : List Str), (defScope s__law_later).names.lookup n = some .cell ∧ ∃ x, ([("folk1", nD folk), ("top1", .int top), ("log1", logD l), ("odd", y), ("at", nD i)] : List (Str × D)).lookup n = some x := fun i y n hn => by
    simp only [List.mem_cons, List.not_mem_nil, or_false] at hn
    rcases hn with rfl | rfl | rfl | rfl | rfl <;> exact ⟨rfl, _, rfl⟩
  have pl5 : ∀ (i : Nat) (y : D), D.plain y = true → ∀ q ∈ ([("folk1", nD folk), ("top1", .int top), ("log1", logD l), ("odd", y), ("at", nD i)] : List (Str × D)), D.plain q.2 = true := fun i y hy q hq => by
    simp only [List.mem_cons, List.not_mem_nil, or_false] at hq
    rcases hq with rfl | rfl | rfl | rfl | rfl
    · exact pf
    · exact pt
    · exact plg
    · exact hy
    · exact int_plain _
  refine exs_cons (ex_for (B1 := Z) (ds := enD (l.map Sale.d)) (it_enumT rfl bl.enumerate (by walk_at "nm")) (fun _ ρ Y => ρ = ρ1 ∧ Y = Z) ⟨rfl, rfl⟩ (fun i d ρ' Y hd ⟨g1, g2⟩ => ?_) fun ρ' Y ⟨g1, g2⟩ => ?_)
  · subst g1 g2
    obtain ⟨s, hs, hgd, hdd⟩ : ∃ s, s ∈ l ∧ l[i]? = some s ∧ d = .tup [nD i, s.d] := by
      have hi := (List.getElem?_eq_some_iff.mp hd).1
      rw [enD_length, List.length_map] at hi
      have hg := List.getElem?_eq_getElem hi
      refine ⟨l[i], List.getElem_mem hi, hg, ?_⟩
      have := enD_get (xs := l.map Sale.d) (i := i) (x := l[i].d) (by rw [List.getElem?_map, hg]; rfl)
      rw [hd] at this
      exact Option.some.inj this
    subst hdd
    have sok := ok.ok s hs
    refine ⟨_, _, tg_tup (tgs_cons (tg_name (i := 4) (by walk_at "st")) (tgs_cons (tg_name (i := 5) (by walk_at "st")) tgs_nil)), ?_⟩
    let ρ2 : Rho := [.d (nD folk), .d (.int top), .d (logD l), .u, .d (nD i), .d s.d, .u]
    refine exs_cons (ex_for (B1 := Y) (it_seq (ev_lst (evs_cons ev_non (evs_cons ev_bl (evs_cons (by walk_at "nm") (evs_cons (ev_neg ev_int) (evs_cons (ev_ixN (i := 0) (by walk_at "nm") ev_int rfl rfl) evs_nil)))))) rfl) (fun _ ρ X => ρ = ρ2 ∧ X = Y) ⟨rfl, rfl⟩ (fun j y ρ' X hd ⟨g1, g2⟩ => ?_) fun ρ' X ⟨g1, g2⟩ => by subst g1 g2; exact exs_fgt (is := [4, 5]) (exs_nil ⟨rfl, rfl⟩))
    subst g1 g2
    have hy : y ∈ [D.non, .bl true, nD folk, .int (-1), nD s.win] := List.mem_of_getElem? hd
    have hp : D.plain y = true ∧ (inR y 0 ((folk : Nat) - 1) = false ∨ ∃ w : Nat, y = nD w ∧ w ∉ s.others) := by
      simp only [List.mem_cons, List.not_mem_nil, or_false] at hy
      rcases hy with rfl | rfl | rfl | rfl | rfl
      · exact ⟨non_plain, .inl rfl⟩
      · exact ⟨bl_plain _, .inl rfl⟩
      · exact ⟨int_plain _, .inl (by show (decide (0 ≤ ((folk : Nat) : Int)) && decide (((folk : Nat) : Int) ≤ (folk : Nat) - 1)) = false; rw [decide_eq_false (show ¬ ((folk : Nat) : Int) ≤ (folk : Nat) - 1 by omega), Bool.and_false])⟩
      · exact ⟨int_plain _, .inl rfl⟩
      · exact ⟨int_plain _, .inr ⟨s.win, rfl, sok.nw⟩⟩
    obtain ⟨py, ny⟩ := hp
    refine ⟨_, _, tg_name (i := 3) (by walk_at "st"), ?_⟩
    refine exs_cons (ex_skip (B1 := X) (ts_not (k := true) (ts_val (ev_callL (lv := [("folk1", nD folk), ("top1", .int top), ("log1", logD l), ("odd", y), ("at", nD i)]) HR (Nat.le_refl 10) rfl rfl ⟨fun q hq => ?lv3, fun _ => rfl⟩ (evs_cons (ev_lst (evs_cons (LM rfl fun _ => rfl) evs_nil)) (evs_cons ev_str evs_nil)) (by exact .cons (.lst (.cons (cv_lam (by exact cl1 _ _ (odd5 i y))) .nil)) (.cons (.same _) .nil)) ⟨_, .who, AllD.mem ?ab3, by simp, rfl, rfl, rfl⟩))) (exs_fgt (is := [3]) (exs_nil ⟨rfl, rfl⟩)))
    case lv3 =>
      simp only [List.mem_cons, List.not_mem_nil, or_false] at hq
      rcases hq with rfl | rfl | rfl | rfl | rfl
      · exact ⟨0, rfl, rfl, rfl⟩
      · exact ⟨1, rfl, rfl, rfl⟩
      · exact ⟨2, rfl, rfl, rfl⟩
      · exact ⟨3, rfl, rfl, rfl⟩
      · exact ⟨4, rfl, rfl, rfl⟩
    case ab3 => exact ⟨⟨_, _, _, rfl, ⟨⟨rfl, rfl, rfl, by decide +kernel, by decide +kernel, by decide +kernel, fun _ _ _ _ _ => rfl⟩, caps_plain (pl5 i y py) _, fun B => evx_call XW (Nat.le_refl 7) rfl (evs_cons (by walk_at "nm") (evs_cons (by walk_at "nm") (evs_cons (by walk_at "nm") (evs_cons (by walk_at "nm") (evs_cons (by walk_at "nm") evs_nil))))) (.inr (.inr ⟨folk, top, l, i, s, y, ok, hgd, py, ny, rfl, rfl⟩))⟩⟩, trivial⟩
  subst g1 g2
  exact exs_one (ex_ret ev_bl ⟨rfl, rfl⟩)
abbrev s_law : Stmt := topS 63
abbrev n_law : List Str := ["script", "bag", "sale", "some", "x", "odd", "folk1", "top1", "log1", "worths1", "good", "turn"]
theorem sc_law : FnScope n_law ["script"] (defScope s_law) := ⟨rfl, rfl, rfl, by decide +kernel, rfl, by decide +kernel, by decide +kernel⟩
abbrev q_law : Str := ("law" : Str) ++ ".<locals>."
abbrev saleT : D := .tup [.int 0, .int 1, .tup [.int 1]]
abbrev thA (l : List Sale) : List D := [logD l, .lst (l.map Sale.d), .tup (l.map Sale.d ++ [.non]), .tup (List.replicate 8 saleT), .tup (List.replicate 9 saleT), .tup [], .non, saleT, .tup [.tup [.int 0, .int 0, .tup [.int 1]]]]
abbrev thB (top : Int) : List D := [.tup [.tup [.int 0, .int top, .tup [.int 1]]], .tup [.tup [.int 0, .int (top + 1), .tup [.int 1]]], .tup [.tup [.int 0, .int 1, .tup [.int 0, .int 1]]], .tup [.tup [.int 0, .int 1, .tup []]], .tup [.tup [.int 0, .int 1, .lst [.int 1]]]]
abbrev thC (folk : Nat) : List D := [.tup [.tup [nD folk, .int 1, .tup [.int 0]]], .tup [.tup [.int 0, .int 1, .tup [nD folk]]], .tup [.tup [.int 1, .int 1, .tup [.int 0, .int 0]]], .tup [.tup [.int 0, .int 1, .tup [.bl true]]]]
theorem okd_sale {folk : Nat} {top : Int} {s : Sale} (h : SaleOk folk top s) (hf : folk ≤ 8) : OkD 2 s.d := okd_seq (by show 3 ≤ 1000; omega) fun x hx => by
  have hx : x ∈ [nD s.win, D.int s.price, D.tup (s.others.map nD)] := hx
  simp only [List.mem_cons, List.not_mem_nil, or_false] at hx
  have := h.len
  rcases hx with rfl | rfl | rfl
  · exact okd_int _
  · exact okd_int _
  · exact okd_seq (by rw [List.length_map]; omega) fun x hx => by
      obtain ⟨n, _, rfl⟩ := List.mem_map.mp hx
      exact okd_int _
theorem okd_1 {n : Nat} {a : D} (h : OkD n a) : OkD (n + 1) (.tup [a]) := okd_seq (by simp) fun x hx => by
  obtain rfl := List.mem_singleton.mp hx
  exact h
theorem okd_3 {n : Nat} {a b c : D} (h1 : OkD n a) (h2 : OkD n b) (h3 : OkD n c) : OkD (n + 1) (.tup [a, b, c]) := okd_seq (by simp) fun x hx => by
  simp only [List.mem_cons, List.not_mem_nil, or_false] at hx
  rcases hx with rfl | rfl | rfl <;> assumption
theorem okd_2 {n : Nat} {a b : D} (h1 : OkD n a) (h2 : OkD n b) : OkD (n + 1) (.tup [a, b]) := okd_seq (by simp) fun x hx => by
  simp only [List.mem_cons, List.not_mem_nil, or_false] at hx
  rcases hx with rfl | rfl <;> assumption
theorem okd_saleT {n : Nat} : OkD (n + 2) saleT := okd_3 (okd_int _) (okd_int _) (okd_1 (okd_int _))
theorem th_ok {folk : Nat} {top : Int} {l : List Sale} (ok : LogOk folk top l) : ∀ x ∈ thA l ++ thB top ++ thC folk, OkD 5 x := by
  have n8 := ok.n8
  have sl : ∀ x ∈ l.map Sale.d, OkD 2 x := fun x hx => by
    obtain ⟨s, hs, rfl⟩ := List.mem_map.mp hx
    exact okd_sale (ok.ok s hs) ok.f8
  have rep : ∀ n, n ≤ 1000 → OkD 3 (.tup (List.replicate n saleT)) := fun n hn => okd_seq (by rw [List.length_replicate]; exact hn) fun x hx => by
    obtain rfl := List.eq_of_mem_replicate hx
    exact okd_saleT
  have empty : OkD 1 (.tup []) := okd_seq (by simp) fun x hx => by cases hx
  intro x hx
  have up : ∀ {n : Nat}, n ≤ 5 → OkD n x → OkD 5 x := fun h k => k.le h
  simp only [List.mem_append, List.mem_cons, List.not_mem_nil, or_false] at hx
  rcases hx with ((rfl | rfl | rfl | rfl | rfl | rfl | rfl | rfl | rfl) | rfl | rfl | rfl | rfl | rfl) | rfl | rfl | rfl | rfl
  · exact up (n := 3) (by omega) (okd_seq (by rw [List.length_map]; omega) sl)
  · exact up (n := 3) (by omega) (okd_lst (by rw [List.length_map]; omega) sl)
  · refine up (n := 3) (by omega) (okd_seq (by rw [List.length_append, List.length_map]; show l.length + 1 ≤ 1000; omega) fun x hx => ?_)
    rcases List.mem_append.mp hx with hx | hx
    · exact sl x hx
    · obtain rfl := List.mem_singleton.mp hx
      exact okd_non
  · exact up (by omega) (rep 8 (by omega))
  · exact up (by omega) (rep 9 (by omega))
  · exact up (by omega) empty
  · exact okd_non
  · exact okd_saleT
  · exact okd_1 (okd_3 (n := 3) (okd_int _) (okd_int _) (okd_1 (okd_int _)))
  · exact okd_1 (okd_3 (n := 3) (okd_int _) (okd_int _) (okd_1 (okd_int _)))
  · exact okd_1 (okd_3 (n := 3) (okd_int _) (okd_int _) (okd_1 (okd_int _)))
  · exact okd_1 (okd_3 (n := 3) (okd_int _) (okd_int _) (okd_2 (okd_int _) (okd_int _)))
  · exact okd_1 (okd_3 (n := 3) (okd_int _) (okd_int _) (empty.le (by omega)))
  · exact okd_1 (okd_3 (n := 3) (okd_int _) (okd_int _) (okd_lst (by simp) fun x hx => by
      obtain rfl := List.mem_singleton.mp hx
      exact okd_int _))
  · exact okd_1 (okd_3 (n := 3) (okd_int _) (okd_int _) (okd_1 (okd_int _)))
  · exact okd_1 (okd_3 (n := 3) (okd_int _) (okd_int _) (okd_1 (okd_int _)))
  · exact okd_1 (okd_3 (n := 3) (okd_int _) (okd_int _) (okd_2 (okd_int _) (okd_int _)))
  · exact okd_1 (okd_3 (n := 3) (okd_int _) (okd_int _) (okd_1 (okd_bl _)))
theorem law_body {T : Top} {er : Err → Addr} {c P : Addr} (bl : Bl T) (HT : HasFn T 1 "_law_take" C__law_take) (HM : HasFn T 3 "_law_market" C__law_market) (HO : HasFn T 5 "_law_odd" (C__law_odd 3)) (HG : HasFn T 2 "_law_good" C__law_good) (HS : HasFn T 1 "_law_same" (C__law_same 0)) (HI : HasFn T 6 "is_log" C_is_log)
    (HR : HasFn T 10 "_law_refused" (C_refused T er)) (HD : HasFn T 1 "_law_doors" C_doors) (HL : HasFn T 11 "_law_later_refused" C_later) (XI : HasFnX T er 6 "is_log" X_is_log) (DX : ∀ {f t d : D} {k : Err}, D.plain f = true → D.plain t = true → D.plain d = true → No3 f t d k → AllD (Refuses T er 7 k) (doorsD f t d))
    (TB : LamX.TabB T.base T.mg c P) (hT : (P, q_law ++ "<lambda>") ∈ T.K.T) (hu : ∀ p ∈ T.K.T, p.1 = P → p.2 = q_law ++ "<lambda>")
    {body rest : List Stmt} {tg it : Expr} {p : Pos} (hb : defBody s_law = .For tg it body [] p :: rest) (cl : List (Str × Addr)) (hcf : ∀ n, (defScope s_law).names.lookup n = some .cell → ∃ a, cl.lookup n = some a) (b : Bag) (h0 : Bag0 b) : Exs (gL T n_law s_law 11 cl q_law c) body ((rhoU n_law).set 1 (.d .bag)) b (bagE n_law) := by
  have hbody : body = (match defBody s_law with | .For _ _ body _ _ :: _ => body | _ => []) := by rw [hb]
  subst hbody
  have hB : BagN 10000 b := ⟨h0.1, h0.2.1, h0.2.2.1, h0.2.2.2.1, h0.2.2.2.2⟩
  obtain ⟨ok, _, _, hB1⟩ := mk_log (mf := 8) (mt := 1000) (ms := 8) (by omega) (by omega) (by omega) (by omega) (by omega) hB
  refine exs_cons (ex_asg (x := .tup [nD (mkF 8 b), nD (mkT 8 1000 b), logD (mkL 8 1000 8 b), .tup ((mkW 8 1000 b).map .int)]) (B1 := mkB 8 1000 8 b) (ev_call HM (by show 3 ≤ 11; omega) rfl (evs_cons (by walk_at "nm") (evs_cons ev_int (evs_cons ev_int (evs_cons ev_int evs_nil)))) ⟨8, 1000, 8, by omega, by omega, by omega, by omega, by omega, hB.mono (by omega), rfl, rfl, rfl⟩) (tg_tup (tgs_cons (tg_name (i := 6) (by walk_at "st")) (tgs_cons (tg_name (i := 7) (by walk_at "st")) (tgs_cons (tg_name (i := 8) (by walk_at "st")) (tgs_cons (tg_name (i := 9) (by walk_at "st")) tgs_nil))))) ?_)
  generalize mkF 8 b = folk at *
  generalize mkT 8 1000 b = topN at *
  generalize mkL 8 1000 8 b = l at *
  generalize mkB 8 1000 8 b = B1 at *
  generalize (mkW 8 1000 b).map D.int = wd at *
  have n8 := ok.n8
  let top : Int := (topN : Nat)
  refine exs_cons (ex_set (i := 2) (x := saleT) (B1 := B1) (by walk_at "st") (ev_tup (evs_cons ev_int (evs_cons ev_int (evs_cons (ev_tup (evs_cons ev_int evs_nil)) evs_nil)))) ?_ (fun _ _ => rfl))
  have l9 : (thA l).length = 9 := rfl
  refine exs_cons (ex_set (i := 3) (x := .lst (thA l)) (B1 := B1) (by walk_at "st") (ev_lst (evs_cons (by walk_at "nm") (evs_cons (EvR.fz (ct := .l (l.map Sale.d)) (ev_callTy (k_list (x := logD l) rfl) rfl bl.list bt_list (evs_cons (by walk_at "nm") evs_nil) (by decide) (by decide))) (evs_cons (ev_catT (xs := l.map Sale.d) (by walk_at "nm") (ev_tup (evs_cons ev_non evs_nil)) (by rw [List.length_map]; show l.length + 1 ≤ 1000000; omega)) (evs_cons (ev_bin (b_repD (m := 6) (by omega)) (ev_tup (evs_cons (by walk_at "nm") evs_nil)) ev_int) (evs_cons (ev_bin (b_repD (m := 7) (by omega)) (ev_tup (evs_cons (by walk_at "nm") evs_nil)) ev_int) (evs_cons (ev_tup evs_nil) (evs_cons ev_non (evs_cons (by walk_at "nm") (evs_cons (ev_tup (evs_cons (ev_tup (evs_cons ev_int (evs_cons ev_int (evs_cons (ev_tup (evs_cons ev_int evs_nil)) evs_nil)))) evs_nil)) evs_nil)))))))))) ?_ (fun _ _ => rfl))
  refine exs_cons (ex_set (i := 3) (x := .lst (thA l ++ thB top)) (B1 := B1) (by walk_at "st") (ev_catL (xs := thA l) (ys := thB top) (by walk_at "nm") (ev_lst (evs_cons (ev_tup (evs_cons (ev_tup (evs_cons ev_int (evs_cons (by walk_at "nm") (evs_cons (ev_tup (evs_cons ev_int evs_nil)) evs_nil)))) evs_nil)) (evs_cons (ev_tup (evs_cons (ev_tup (evs_cons ev_int (evs_cons (ev_bin (b_add (i := top) (j := 1)) (by walk_at "nm") ev_int) (evs_cons (ev_tup (evs_cons ev_int evs_nil)) evs_nil)))) evs_nil)) (evs_cons (ev_tup (evs_cons (ev_tup (evs_cons ev_int (evs_cons ev_int (evs_cons (ev_tup (evs_cons ev_int (evs_cons ev_int evs_nil))) evs_nil)))) evs_nil)) (evs_cons (ev_tup (evs_cons (ev_tup (evs_cons ev_int (evs_cons ev_int (evs_cons (ev_tup evs_nil) evs_nil)))) evs_nil)) (evs_cons (ev_tup (evs_cons (ev_tup (evs_cons ev_int (evs_cons ev_int (evs_cons (ev_lst (evs_cons ev_int evs_nil)) evs_nil)))) evs_nil)) evs_nil)))))) (by show 9 + 5 ≤ 1000000; omega)) ?_ (fun _ _ => rfl))
  refine exs_cons (ex_set (i := 3) (x := .lst (thA l ++ thB top ++ thC folk)) (B1 := B1) (by walk_at "st") (ev_catL (xs := thA l ++ thB top) (ys := thC folk) (by walk_at "nm") (ev_lst (evs_cons (ev_tup (evs_cons (ev_tup (evs_cons (by walk_at "nm") (evs_cons ev_int (evs_cons (ev_tup (evs_cons ev_int evs_nil)) evs_nil)))) evs_nil)) (evs_cons (ev_tup (evs_cons (ev_tup (evs_cons ev_int (evs_cons ev_int (evs_cons (ev_tup (evs_cons (by walk_at "nm") evs_nil)) evs_nil)))) evs_nil)) (evs_cons (ev_tup (evs_cons (ev_tup (evs_cons ev_int (evs_cons ev_int (evs_cons (ev_tup (evs_cons ev_int (evs_cons ev_int evs_nil))) evs_nil)))) evs_nil)) (evs_cons (ev_tup (evs_cons (ev_tup (evs_cons ev_int (evs_cons ev_int (evs_cons (ev_tup (evs_cons ev_bl evs_nil)) evs_nil)))) evs_nil)) evs_nil))))) (by show 14 + 4 ≤ 1000000; omega)) ?_ (fun _ _ => rfl))
  have thok := th_ok ok
  have thl : (thA l ++ thB top ++ thC folk).length = 18 := rfl
  have okl : OkD 3 (logD l) := okd_seq (by rw [List.length_map]; omega) fun x hx => by
    obtain ⟨s, hs, rfl⟩ := List.mem_map.mp hx
    exact okd_sale (ok.ok s hs) ok.f8
  let oddF : Nat → Bag → D × Bag := fun _ B => oddD 3 (logD l) B
  have okO : ∀ x ∈ (mapT oddF (List.range 10) B1).1, OkD 5 x := by
    have : ∀ (ns : List Nat) (B : Bag), ∀ x ∈ (mapT oddF ns B).1, OkD 5 x := by
      intro ns
      induction ns with
      | nil => intro B x hx; cases hx
      | cons n ns ih =>
        intro B x hx
        have hx : x ∈ (oddF n B).1 :: (mapT oddF ns (oddF n B).2).1 := hx
        rcases List.mem_cons.mp hx with rfl | hx
        · exact oddD_ok 3 (k := 0) (okl.le (by omega))
        · exact ih _ x hx
    exact this _ _
  have lenO : (mapT oddF (List.range 10) B1).1.length = 10 := by
    have : ∀ (ns : List Nat) (B : Bag), (mapT oddF ns B).1.length = ns.length := by
      intro ns
      induction ns with
      | nil => intro B; rfl
      | cons n ns ih => intro B; show (_ :: _).length = _; rw [List.length_cons, ih]; rfl
    rw [this, List.length_range]
  generalize hB2 : (mapT oddF (List.range 10) B1).2 = B2
  let ρ1 : Rho := [.u, .d .bag, .d saleT, .d (.lst (thA l ++ thB top ++ thC folk)), .u, .u, .d (nD folk), .d (.int top), .d (logD l), .d (.tup wd), .u, .u]
  refine exs_cons (ex_for (B1 := B2) (ds := (thA l ++ thB top ++ thC folk) ++ (mapT oddF (List.range 10) B1).1.map (fun y => y)) (it_seq (ev_catL (xs := thA l ++ thB top ++ thC folk) (ys := (mapT oddF (List.range 10) B1).1.map (fun y => y)) (B1 := B1) (by walk_at "nm") (by
      rw [← hB2]
      exact ev_lcBI (own := [("turn", 11)]) (fun m B => BagN (20000 + 100 * (m : Nat)) B) (List.range 10) nD (fun y => y) oddF (it_rangeN (m := 10) rfl bl.range ev_int (by omega)) (by dsimp only [gL]; decide +kernel) rfl (by rw [List.length_range]; omega) (hB1.mono (by omega)) fun a ha m Z hm hZ =>
        ⟨⟨_, _, tg_name (i := 11) (by walk_at "st"), by decide, ev_call HO (by show 5 ≤ 11; omega) rfl (evs_cons (by walk_at "nm") (evs_cons (by walk_at "nm") evs_nil)) ⟨logD l, 20000 + 100 * (m : Nat), by omega, okl, hZ, by rw [List.length_range] at hm; omega, rfl, rfl, rfl⟩⟩, (oddD_bag 3 hZ).mono (by omega)⟩) (by rw [thl, List.length_map, lenO]; omega)) rfl) (fun _ ρ C => ρ = ρ1 ∧ C = B2) ⟨rfl, rfl⟩ (fun i x ρ' C hd ⟨g1, g2⟩ => ?_) fun ρ' C ⟨g1, g2⟩ => ?_)
  · subst g1 g2
    have okx : OkD 5 x := by
      rcases List.mem_append.mp (List.mem_of_getElem? hd) with h | h
      · exact thok x h
      · rw [List.map_id'] at h
        exact okO x h
    have f1 := folk_inR ok
    have t1 := top_inR ok
    have px := okx.fit.plain
    refine ⟨_, _, tg_name (i := 4) (by walk_at "st"), ?_⟩
    generalize hgd : isLogD folk top x = gd
    refine exs_cons (ex_set (i := 10) (x := .bl gd) (B1 := C) (by walk_at "st") (by rw [← hgd]; exact ev_call HG (by show 2 ≤ 11; omega) rfl (evs_cons (by walk_at "nm") (evs_cons (by walk_at "nm") (evs_cons (by walk_at "nm") evs_nil))) ⟨folk, top, x, 5, by omega, okx, rfl, rfl, rfl⟩) ?_ (fun _ _ => rfl))
    refine exs_cons (ex_skip (B1 := C) (ts_not (k := true) (ts_val (EvR.to (ev_call HS (by show 1 ≤ 11; omega) rfl (evs_cons (EvR.to (ev_call HI (by show 6 ≤ 11; omega) rfl (evs_cons (by walk_at "nm") (evs_cons (by walk_at "nm") (evs_cons (by walk_at "nm") evs_nil))) ⟨folk, top, x, 5, okx.fit, f1, t1, rfl, rfl, rfl⟩) (by rw [hgd])) (evs_cons (by walk_at "nm") evs_nil)) ⟨.bl gd, .bl gd, D.Scl.bl gd, bl_plain gd, rfl, rfl, rfl⟩) (by rw [same_bl, decide_eq_true rfl])))) ?_)
    refine exs_cons (ex_skip (B1 := C) ?tst (exs_fgt (is := [4, 10]) (exs_nil ⟨rfl, rfl⟩)))
    case tst =>
      cases gd with
      | true => exact Tw.ts (tw_andP (k := false) (k' := false) (ts_not (k := true) (ts_val (by walk_at "nm"))) fun z => nomatch z)
      | false =>
        have n3 : No3 (nD folk) (.int top) x .log := .inr ⟨folk, top, 5, okx.fit, rfl, rfl, f1, t1, hgd, rfl⟩
        exact Tw.ts (tw_andP (k := true) (k' := false) (ts_not (k := false) (ts_val (by walk_at "nm"))) fun _ => tw_and1 (ts_not (k := true) (ts_val (ev_call HR (by show 10 ≤ 11; omega) rfl (evs_cons (ev_call HD (by show 1 ≤ 11; omega) rfl (evs_cons (by walk_at "nm") (evs_cons (by walk_at "nm") (evs_cons (by walk_at "nm") evs_nil))) ⟨_, _, _, rfl, rfl, rfl⟩) (evs_cons ev_str evs_nil)) ⟨_, .log, AllD.mem (DX (int_plain _) (int_plain _) px n3), by rw [doorsD, List.length_map]; decide +kernel, rfl, rfl, rfl⟩))))
  subst g1 g2
  have LM : ∀ {ρ : Rho} {params : Arguments} {body : Expr} {scope : Scope} {pos : Pos} {Z : Bag}, LamX.lamSB (defScope s_law) scope = true → (∀ env : Env, defaultsOf params env = ([], [])) → Ev (gL T n_law s_law 11 cl q_law c) (.Lambda params body scope pos) ρ Z (.lmv ⟨q_law ++ "<lambda>", params, body, scope⟩ (cloFrom cl scope.names [])) Z := fun {ρ params body scope pos Z} h hd => ev_lam rfl TB hT hu (LamX.lamS_by h) hd
  have odd1 : ∀ (y : D), ∀ n ∈ (["odd"] : List Str), (∃ a, cl.lookup n = some a) ∧ ∃ x, ([("odd", y)] : List (Str × D)).lookup n = some x := fun y n hn => by
    obtain rfl := List.mem_singleton.mp hn
    exact ⟨hcf _ rfl, _, rfl⟩
  have pl1 : ∀ (y : D), D.plain y = true → ∀ q ∈ ([("odd", y)] : List (Str × D)), D.plain q.2 = true := fun y hy q hq => by
    obtain rfl := List.mem_singleton.mp hq
    exact hy
  have len12 : ∀ f t d : D, (doorsD f t d).length = 12 := fun f t d => by rw [doorsD, List.length_map]; decide +kernel
  refine exs_cons (ex_for (B1 := C) (it_seq (ev_lst (evs_cons ev_int (evs_cons ev_int (evs_cons ev_non (evs_cons ev_bl (evs_cons ev_str evs_nil)))))) rfl) (fun _ ρ Z => ρ = ρ1 ∧ Z = C) ⟨rfl, rfl⟩ (fun i y ρ' Z hd ⟨g1, g2⟩ => ?_) fun ρ' Z ⟨g1, g2⟩ => ?_)
  · subst g1 g2
    have hy : y ∈ [D.int 1, .int 9, .non, .bl true, .str "2"] := List.mem_of_getElem? hd
    have hp : D.plain y = true ∧ inR y 2 8 = false := by
      simp only [List.mem_cons, List.not_mem_nil, or_false] at hy
      rcases hy with rfl | rfl | rfl | rfl | rfl
      · exact ⟨int_plain _, rfl⟩
      · exact ⟨int_plain _, rfl⟩
      · exact ⟨non_plain, rfl⟩
      · exact ⟨bl_plain _, rfl⟩
      · exact ⟨str_plain _, rfl⟩
    obtain ⟨py, ny⟩ := hp
    have nm : NoM y .non .folk := .inl ⟨ny, rfl⟩
    refine ⟨_, _, tg_name (i := 5) (by walk_at "st"), ?_⟩
    refine exs_cons (ex_skip (B1 := Z) (ts_not (k := true) (ts_val (ev_callL (lv := [("odd", y)]) HR (by show 10 ≤ 11; omega) rfl rfl ⟨fun q hq => ?lv1, fun _ => rfl⟩ (evs_cons (ev_catL (ev_call HD (by show 1 ≤ 11; omega) rfl (evs_cons (by walk_at "nm") (evs_cons ev_non (evs_cons ev_non evs_nil))) ⟨_, _, _, rfl, rfl, rfl⟩) (ev_lst (evs_cons (LM rfl fun _ => rfl) evs_nil)) (by rw [len12]; show 12 + 1 ≤ 1000000; omega)) (evs_cons ev_str evs_nil)) (by exact .cons (.lst (CvAll.append (CvAll.same _) (.cons (cv_lam (by exact odd1 y)) .nil))) (.cons (.same _) .nil)) ⟨_, .folk, fun d hd => (List.mem_append.mp hd).elim (AllD.mem (DX py non_plain non_plain (.inl nm)) d) (AllD.mem ?ab1 d), by rw [List.length_append, len12]; show 12 + 1 ≤ 1000; omega, rfl, rfl, rfl⟩))) (exs_fgt (is := [5]) (exs_nil ⟨rfl, rfl⟩)))
    case lv1 =>
      obtain rfl := List.mem_singleton.mp hq
      exact ⟨5, rfl, rfl, rfl⟩
    case ab1 => exact ⟨⟨_, _, _, rfl, ⟨⟨rfl, rfl, rfl, by decide +kernel, by decide +kernel, by decide +kernel, fun _ _ _ _ _ => rfl⟩, caps_plain (pl1 y py) _, fun B => evx_call XI (by show 6 ≤ 7; omega) rfl (evs_cons (by walk_at "nm") (evs_cons ev_non (evs_cons ev_non evs_nil))) ⟨_, _, _, py, non_plain, rfl, nm⟩⟩⟩, trivial⟩
  subst g1 g2
  refine exs_cons (ex_for (B1 := Z) (it_seq (ev_lst (evs_cons ev_int (evs_cons ev_int (evs_cons ev_non (evs_cons ev_bl (evs_cons ev_str evs_nil)))))) rfl) (fun _ ρ Y => ρ = ρ1 ∧ Y = Z) ⟨rfl, rfl⟩ (fun i y ρ' Y hd ⟨g1, g2⟩ => ?_) fun ρ' Y ⟨g1, g2⟩ => ?_)
  · subst g1 g2
    have hy : y ∈ [D.int 0, .int 1001, .non, .bl true, .str "1"] := List.mem_of_getElem? hd
    have hp : D.plain y = true ∧ inR y 1 1000 = false := by
      simp only [List.mem_cons, List.not_mem_nil, or_false] at hy
      rcases hy with rfl | rfl | rfl | rfl | rfl
      · exact ⟨int_plain _, rfl⟩
      · exact ⟨int_plain _, rfl⟩
      · exact ⟨non_plain, rfl⟩
      · exact ⟨bl_plain _, rfl⟩
      · exact ⟨str_plain _, rfl⟩
    obtain ⟨py, ny⟩ := hp
    have nm : NoM (.int 2) y .top := .inr ⟨rfl, ny, rfl⟩
    refine ⟨_, _, tg_name (i := 5) (by walk_at "st"), ?_⟩
    refine exs_cons (ex_skip (B1 := Y) (ts_not (k := true) (ts_val (ev_callL (lv := [("odd", y)]) HR (by show 10 ≤ 11; omega) rfl rfl ⟨fun q hq => ?lv1, fun _ => rfl⟩ (evs_cons (ev_catL (ev_call HD (by show 1 ≤ 11; omega) rfl (evs_cons ev_int (evs_cons (by walk_at "nm") (evs_cons ev_non evs_nil))) ⟨_, _, _, rfl, rfl, rfl⟩) (ev_lst (evs_cons (LM rfl fun _ => rfl) evs_nil)) (by rw [len12]; show 12 + 1 ≤ 1000000; omega)) (evs_cons ev_str evs_nil)) (by exact .cons (.lst (CvAll.append (CvAll.same _) (.cons (cv_lam (by exact odd1 y)) .nil))) (.cons (.same _) .nil)) ⟨_, .top, fun d hd => (List.mem_append.mp hd).elim (AllD.mem (DX (int_plain _) py non_plain (.inl nm)) d) (AllD.mem ?ab1 d), by rw [List.length_append, len12]; show 12 + 1 ≤ 1000; omega, rfl, rfl, rfl⟩))) (exs_fgt (is := [5]) (exs_nil ⟨rfl, rfl⟩)))
    case lv1 =>
      obtain rfl := List.mem_singleton.mp hq
      exact ⟨5, rfl, rfl, rfl⟩
    case ab1 => exact ⟨⟨_, _, _, rfl, ⟨⟨rfl, rfl, rfl, by decide +kernel, by decide +kernel, by decide +kernel, fun _ _ _ _ _ => rfl⟩, caps_plain (pl1 y py) _, fun B => evx_call XI (by show 6 ≤ 7; omega) rfl (evs_cons ev_int (evs_cons (by walk_at "nm") (evs_cons ev_non evs_nil))) ⟨_, _, _, int_plain _, py, rfl, nm⟩⟩⟩, trivial⟩
  subst g1 g2
  exact exs_cons (ex_skip (B1 := Y) (ts_not (k := true) (ts_val (ev_call HL (by show 11 ≤ 11; omega) rfl (evs_cons (by walk_at "nm") (evs_cons (by walk_at "nm") (evs_cons (by walk_at "nm") evs_nil))) ⟨folk, top, l, ok, rfl, rfl, rfl⟩))) (exs_nil rfl))
abbrev s__law_bags : Stmt := topS 51
abbrev n__law_bags : List Str := ["script", "most", "k", "cell"]
theorem sc__law_bags : FnScope n__law_bags ["script", "most"] (defScope s__law_bags) := ⟨rfl, rfl, rfl, by decide +kernel, rfl, by decide +kernel, by decide +kernel⟩
theorem hu3 {T : List (Addr × Str)} {P1 P2 P3 : Addr} {a b c : Str} (h : T = [(P1, a), (P2, b), (P3, c)]) (n12 : P1 ≠ P2) (n13 : P1 ≠ P3) (n23 : P2 ≠ P3) : ((P1, a) ∈ T ∧ ∀ p ∈ T, p.1 = P1 → p.2 = a) ∧ ((P2, b) ∈ T ∧ ∀ p ∈ T, p.1 = P2 → p.2 = b) ∧ ((P3, c) ∈ T ∧ ∀ p ∈ T, p.1 = P3 → p.2 = c) := by
  subst h
  have cs : ∀ p ∈ [(P1, a), (P2, b), (P3, c)], p = (P1, a) ∨ p = (P2, b) ∨ p = (P3, c) := fun p hp => by simpa using hp
  refine ⟨⟨by simp, fun p hp e => ?_⟩, ⟨by simp, fun p hp e => ?_⟩, ⟨by simp, fun p hp e => ?_⟩⟩
  · rcases cs p hp with rfl | rfl | rfl
    · rfl
    · exact absurd e.symm n12
    · exact absurd e.symm n13
  · rcases cs p hp with rfl | rfl | rfl
    · exact absurd e n12
    · rfl
    · exact absurd e.symm n23
  · rcases cs p hp with rfl | rfl | rfl
    · exact absurd e n13
    · exact absurd e n23
    · rfl
theorem law_fn {T : Top} {er : Err → Addr} (bl : Bl T) (eo : ErOk T er) (ei : ErIs T er) (c1 : ∃ t, T.mg "MOST_FOLK" = some (.int 8 t)) (c2 : ∃ t, T.mg "MOST_TOP" = some (.int 1000 t)) (c3 : ∃ t, T.mg "MOST_SALES" = some (.int 8 t))
    {f_is_whole : Addr} {d_is_whole : FuncData} (F_is_whole : Fun T.K "is_whole" "is_whole" s_is_whole f_is_whole d_is_whole) (g_is_whole : T.mg "is_whole" = some (.ref f_is_whole))
    {f_is_within : Addr} {d_is_within : FuncData} (F_is_within : Fun T.K "is_within" "is_within" s_is_within f_is_within d_is_within) (g_is_within : T.mg "is_within" = some (.ref f_is_within))
    {f_are_some : Addr} {d_are_some : FuncData} (F_are_some : Fun T.K "are_some" "are_some" s_are_some f_are_some d_are_some) (g_are_some : T.mg "are_some" = some (.ref f_are_some))
    {f_is_sale : Addr} {d_is_sale : FuncData} (F_is_sale : Fun T.K "is_sale" "is_sale" s_is_sale f_is_sale d_is_sale) (g_is_sale : T.mg "is_sale" = some (.ref f_is_sale))
    {f_look_at_market : Addr} {d_look_at_market : FuncData} (F_look_at_market : Fun T.K "look_at_market" "look_at_market" s_look_at_market f_look_at_market d_look_at_market) (g_look_at_market : T.mg "look_at_market" = some (.ref f_look_at_market))
    {f_is_log_of : Addr} {d_is_log_of : FuncData} (F_is_log_of : Fun T.K "is_log_of" "is_log_of" s_is_log_of f_is_log_of d_is_log_of) (g_is_log_of : T.mg "is_log_of" = some (.ref f_is_log_of))
    {f_is_log : Addr} {d_is_log : FuncData} (F_is_log : Fun T.K "is_log" "is_log" s_is_log f_is_log d_is_log) (g_is_log : T.mg "is_log" = some (.ref f_is_log))
    {f_look_at : Addr} {d_look_at : FuncData} (F_look_at : Fun T.K "look_at" "look_at" s_look_at f_look_at d_look_at) (g_look_at : T.mg "look_at" = some (.ref f_look_at))
    {f_look_at_sale : Addr} {d_look_at_sale : FuncData} (F_look_at_sale : Fun T.K "look_at_sale" "look_at_sale" s_look_at_sale f_look_at_sale d_look_at_sale) (g_look_at_sale : T.mg "look_at_sale" = some (.ref f_look_at_sale))
    {f_fits : Addr} {d_fits : FuncData} (F_fits : Fun T.K "fits" "fits" s_fits f_fits d_fits) (g_fits : T.mg "fits" = some (.ref f_fits))
    {f_can_be : Addr} {d_can_be : FuncData} (F_can_be : Fun T.K "can_be" "can_be" s_can_be f_can_be d_can_be) (g_can_be : T.mg "can_be" = some (.ref f_can_be))
    {f_bar : Addr} {d_bar : FuncData} (F_bar : Fun T.K "bar" "bar" s_bar f_bar d_bar) (g_bar : T.mg "bar" = some (.ref f_bar))
    {f_is_bar : Addr} {d_is_bar : FuncData} (F_is_bar : Fun T.K "is_bar" "is_bar" s_is_bar f_is_bar d_is_bar) (g_is_bar : T.mg "is_bar" = some (.ref f_is_bar))
    {f_how_many : Addr} {d_how_many : FuncData} (F_how_many : Fun T.K "how_many" "how_many" s_how_many f_how_many d_how_many) (g_how_many : T.mg "how_many" = some (.ref f_how_many))
    {f_worths : Addr} {d_worths : FuncData} (F_worths : Fun T.K "worths" "worths" s_worths f_worths d_worths) (g_worths : T.mg "worths" = some (.ref f_worths))
    {f_setters : Addr} {d_setters : FuncData} (F_setters : Fun T.K "setters" "setters" s_setters f_setters d_setters) (g_setters : T.mg "setters" = some (.ref f_setters))
    {f_ways_set : Addr} {d_ways_set : FuncData} (F_ways_set : Fun T.K "ways_set" "ways_set" s_ways_set f_ways_set d_ways_set) (g_ways_set : T.mg "ways_set" = some (.ref f_ways_set))
    {f_gains : Addr} {d_gains : FuncData} (F_gains : Fun T.K "gains" "gains" s_gains f_gains d_gains) (g_gains : T.mg "gains" = some (.ref f_gains))
    {f_fewest_setters : Addr} {d_fewest_setters : FuncData} (F_fewest_setters : Fun T.K "fewest_setters" "fewest_setters" s_fewest_setters f_fewest_setters d_fewest_setters) (g_fewest_setters : T.mg "fewest_setters" = some (.ref f_fewest_setters))
    {f_next_buyers : Addr} {d_next_buyers : FuncData} (F_next_buyers : Fun T.K "next_buyers" "next_buyers" s_next_buyers f_next_buyers d_next_buyers) (g_next_buyers : T.mg "next_buyers" = some (.ref f_next_buyers))
    {f_false_ones : Addr} {d_false_ones : FuncData} (F_false_ones : Fun T.K "false_ones" "false_ones" s_false_ones f_false_ones d_false_ones) (g_false_ones : T.mg "false_ones" = some (.ref f_false_ones))
    {f__law_well : Addr} {d__law_well : FuncData} (F__law_well : Fun T.K "_law_well" "_law_well" s__law_well f__law_well d__law_well) (g__law_well : T.mg "_law_well" = some (.ref f__law_well))
    {f__law_take : Addr} {d__law_take : FuncData} (F__law_take : Fun T.K "_law_take" "_law_take" s__law_take f__law_take d__law_take) (g__law_take : T.mg "_law_take" = some (.ref f__law_take))
    {f__law_bags : Addr} {d__law_bags : FuncData} (F__law_bags : Fun T.K "_law_bags" "_law_bags" s__law_bags f__law_bags d__law_bags) (g__law_bags : T.mg "_law_bags" = some (.ref f__law_bags))
    {f__law_same : Addr} {d__law_same : FuncData} (F__law_same : Fun T.K "_law_same" "_law_same" s__law_same f__law_same d__law_same) (g__law_same : T.mg "_law_same" = some (.ref f__law_same))
    {f__law_in : Addr} {d__law_in : FuncData} (F__law_in : Fun T.K "_law_in" "_law_in" s__law_in f__law_in d__law_in) (g__law_in : T.mg "_law_in" = some (.ref f__law_in))
    {f__law_kind : Addr} {d__law_kind : FuncData} (F__law_kind : Fun T.K "_law_kind" "_law_kind" s__law_kind f__law_kind d__law_kind) (g__law_kind : T.mg "_law_kind" = some (.ref f__law_kind))
    {f__law_tried : Addr} {d__law_tried : FuncData} (F__law_tried : Fun T.K "_law_tried" "_law_tried" s__law_tried f__law_tried d__law_tried) (g__law_tried : T.mg "_law_tried" = some (.ref f__law_tried))
    {f__law_some : Addr} {d__law_some : FuncData} (F__law_some : Fun T.K "_law_some" "_law_some" s__law_some f__law_some d__law_some) (g__law_some : T.mg "_law_some" = some (.ref f__law_some))
    {f__law_market : Addr} {d__law_market : FuncData} (F__law_market : Fun T.K "_law_market" "_law_market" s__law_market f__law_market d__law_market) (g__law_market : T.mg "_law_market" = some (.ref f__law_market))
    {f__law_good : Addr} {d__law_good : FuncData} (F__law_good : Fun T.K "_law_good" "_law_good" s__law_good f__law_good d__law_good) (g__law_good : T.mg "_law_good" = some (.ref f__law_good))
    {f__law_odd : Addr} {d__law_odd : FuncData} (F__law_odd : Fun T.K "_law_odd" "_law_odd" s__law_odd f__law_odd d__law_odd) (g__law_odd : T.mg "_law_odd" = some (.ref f__law_odd))
    {f__law_refused : Addr} {d__law_refused : FuncData} (F__law_refused : Fun T.K "_law_refused" "_law_refused" s__law_refused f__law_refused d__law_refused) (g__law_refused : T.mg "_law_refused" = some (.ref f__law_refused))
    {f__law_doors c__law_doors P__law_doors : Addr} {d__law_doors : FuncData} (F__law_doors : FunL T.K.fr "_law_doors" "_law_doors" s__law_doors f__law_doors d__law_doors c__law_doors) (g__law_doors : T.mg "_law_doors" = some (.ref f__law_doors)) (TB__law_doors : LamX.TabB T.base T.mg c__law_doors P__law_doors)
    {f__law_later_refused c__law_later_refused P__law_later_refused : Addr} {d__law_later_refused : FuncData} (F__law_later_refused : FunL T.K.fr "_law_later_refused" "_law_later_refused" s__law_later f__law_later_refused d__law_later_refused c__law_later_refused) (g__law_later_refused : T.mg "_law_later_refused" = some (.ref f__law_later_refused)) (TB__law_later_refused : LamX.TabB T.base T.mg c__law_later_refused P__law_later_refused)
    {f_law c_law P_law : Addr} {d_law : FuncData} (F_law : FunL T.K.fr "law" "law" s_law f_law d_law c_law) (g_law : T.mg "law" = some (.ref f_law)) (TB_law : LamX.TabB T.base T.mg c_law P_law)
    (hT : T.K.T = [(P__law_doors, q__law_doors ++ "<lambda>"), (P__law_later_refused, q__law_later ++ "<lambda>"), (P_law, q_law ++ "<lambda>")]) (n12 : P__law_doors ≠ P__law_later_refused) (n13 : P__law_doors ≠ P_law) (n23 : P__law_later_refused ≠ P_law)
    : FnOk T.P T.w T.K T.mg T.base CX0 12 f_law d_law ["script"] (spLaw T.K) := by
  have ms : Mst T := ⟨c1, c2, c3⟩
  obtain ⟨⟨m1, u1⟩, ⟨m2, u2⟩, m3, u3⟩ := hu3 hT n12 n13 n23
  have H_is_whole := has_is_whole bl F_is_whole g_is_whole
  have H_is_within := has_is_within H_is_whole F_is_within g_is_within
  have H_are_some := has_are_some bl H_is_within F_are_some g_are_some
  have H_is_sale := has_is_sale bl H_is_within H_are_some F_is_sale g_is_sale
  have H_look_at_market := has_look_at_market ms H_is_within F_look_at_market g_look_at_market
  have X_market_ := hasX_market eo ms H_is_within F_look_at_market g_look_at_market
  have H_is_log_of := has_is_log_of bl ms H_is_sale F_is_log_of g_is_log_of
  have H_is_log := has_is_log H_look_at_market H_is_log_of F_is_log g_is_log
  have X_is_log_ := hasX_is_log eo X_market_ F_is_log g_is_log
  have H_look_at := has_look_at H_look_at_market H_is_log_of F_look_at g_look_at
  have X_look_at_ := hasX_look_at eo H_look_at_market X_market_ H_is_log_of F_look_at g_look_at
  have H_look_at_sale := has_look_at_sale bl H_is_within F_look_at_sale g_look_at_sale
  have X_look_at_sale_ := hasX_look_at_sale eo bl H_is_within F_look_at_sale g_look_at_sale
  have X_fits_ := hasX_fits X_look_at_ F_fits g_fits
  have X_can_be_ := hasX_can_be X_look_at_ F_can_be g_can_be
  have X_bar_ := hasX_bar X_look_at_ F_bar g_bar
  have X_is_bar_ := hasX_is_bar X_look_at_ F_is_bar g_is_bar
  have X_worths_ := hasX_worths X_look_at_ F_worths g_worths
  have X_how_many_ := hasX_how_many X_look_at_ F_how_many g_how_many
  have X_setters_ := hasX_setters X_look_at_ H_look_at X_look_at_sale_ F_setters g_setters
  have X_ways_set_ := hasX_ways_set X_look_at_ H_look_at X_look_at_sale_ H_look_at_sale H_is_within eo F_ways_set g_ways_set
  have X_gains_ := hasX_gains X_look_at_ F_gains g_gains
  have X_fewest_setters_ := hasX_fewest_setters X_look_at_ F_fewest_setters g_fewest_setters
  have X_next_buyers_ := hasX_next_buyers X_look_at_ H_look_at H_are_some eo F_next_buyers g_next_buyers
  have X_false_ones_ := hasX_false_ones X_look_at_ F_false_ones g_false_ones
  have H__law_well := has__law_well F__law_well g__law_well
  have H__law_take := has__law_take F__law_take g__law_take
  have H__law_same := has__law_same bl F__law_same g__law_same 0
  have H__law_in := has__law_in bl F__law_in g__law_in
  have H__law_tried := has_tried (j := 7) bl eo ei F__law_kind g__law_kind F__law_tried g__law_tried
  have H__law_some := has__law_some bl H__law_take F__law_some g__law_some
  have H__law_market := has__law_market bl H__law_take H__law_some F__law_market g__law_market
  have H__law_good := has__law_good bl H__law_in F__law_good g__law_good
  have H__law_odd := has__law_odd bl H__law_take F__law_odd g__law_odd 3
  have H__law_doors := has__law_doors F__law_doors g__law_doors TB__law_doors m1 u1
  have H__law_refused := has_refused H__law_tried F__law_refused g__law_refused
  have H__law_later := has_later bl H__law_refused X_setters_ X_ways_set_ X_next_buyers_ F__law_later_refused g__law_later_refused TB__law_later_refused m2 u2
  have BB : FnOk T.P T.w T.K T.mg T.base CX0 2 f__law_bags d__law_bags ["script", "most"] (spBags T.K 10) := by
    refine' bags_ok (m := 10) (n0 := 10) F__law_bags sc__law_bags H__law_well bl.enumerate rfl (by omega) ?hb ?g1 ?g2 ?v1 ?v2 ?v3 ?v4 ?hc ?s1 ?s2
    case hb => rfl
    case g1 => rfl
    case g2 => rfl
    case v1 => walk_at "vis"
    case v2 => walk_at "vis"
    case v3 => walk_at "vis"
    case v4 => walk_at "vis"
    case hc => decide +kernel
    case s1 => walk_at "st"
    case s2 => walk_at "st"
  refine law_okL (ib := 1) (k := 11) F_law sc_law BB F__law_bags.kp (F__law_bags.binds fun _ _ _ _ _ _ us hl => match us, hl with | [_, _], _ => rfl) g__law_bags (by omega) rfl (by walk_at "vis") rfl (by walk_at "st") rfl (fun cl hcf b h0 => law_body bl H__law_take H__law_market H__law_odd H__law_good H__law_same H_is_log H__law_refused H__law_doors H__law_later X_is_log_ (fun pf pt pd h => doors_x X_fits_ X_can_be_ X_bar_ X_is_bar_ X_worths_ X_how_many_ X_setters_ X_ways_set_ X_gains_ X_fewest_setters_ X_next_buyers_ X_false_ones_ pf pt pd h) TB_law m3 u3 rfl cl hcf b h0) fun cl => ?_
  exact exs_one (ex_ret ev_bl rfl)
def erOf (a b c d e f : Addr) : Err → Addr
  | .folk => a
  | .top => b
  | .log => c
  | .sale => d
  | .who => e
  | .next => f
theorem all_mk {l : PySem.W.OpenLaw} {w : World} {K : PySem.W.Frag} {h : Heap} {mg : Str → Option Value} {fa : Addr} (X : K.In h) (G : h.Ns mainGlobals mg) (hfa : mg "law" = some (.ref fa)) (tabs : ∀ y ∈ (["_law_doors", "_law_later_refused", "law"] : List Str), ∀ c P, PySem.W.tabIn K y = some (c, P) → PySem.W.CodeHd h c P ∧ h.get? P = some (PySem.W.tabObj #[]))
    {f0 : Addr} {od0 an0 : Option Addr} {sl0 : Array (Option Value)} {oc0 kV0 dc0 pm0 cd0 ct0 : Value}
    {f1 : Addr} {od1 an1 : Option Addr} {sl1 : Array (Option Value)} {oc1 kV1 dc1 pm1 cd1 ct1 : Value}
    {f2 : Addr} {od2 an2 : Option Addr} {sl2 : Array (Option Value)} {oc2 kV2 dc2 pm2 cd2 ct2 : Value}
    {f3 : Addr} {od3 an3 : Option Addr} {sl3 : Array (Option Value)} {oc3 kV3 dc3 pm3 cd3 ct3 : Value}
    {f4 : Addr} {od4 an4 : Option Addr} {sl4 : Array (Option Value)} {oc4 kV4 dc4 pm4 cd4 ct4 : Value}
    {f5 : Addr} {od5 an5 : Option Addr} {sl5 : Array (Option Value)} {oc5 kV5 dc5 pm5 cd5 ct5 : Value}
    {f6 : Addr} {od6 an6 : Option Addr} {sl6 : Array (Option Value)} {oc6 kV6 dc6 pm6 cd6 ct6 : Value}
    {f7 : Addr} {od7 an7 : Option Addr} {sl7 : Array (Option Value)} {oc7 kV7 dc7 pm7 cd7 ct7 : Value}
    {f8 : Addr} {od8 an8 : Option Addr} {sl8 : Array (Option Value)} {oc8 kV8 dc8 pm8 cd8 ct8 : Value}
    {f9 : Addr} {od9 an9 : Option Addr} {sl9 : Array (Option Value)} {oc9 kV9 dc9 pm9 cd9 ct9 : Value}
    {f10 : Addr} {od10 an10 : Option Addr} {sl10 : Array (Option Value)} {oc10 kV10 dc10 pm10 cd10 ct10 : Value}
    {f11 : Addr} {od11 an11 : Option Addr} {sl11 : Array (Option Value)} {oc11 kV11 dc11 pm11 cd11 ct11 : Value}
    {f12 : Addr} {od12 an12 : Option Addr} {sl12 : Array (Option Value)} {oc12 kV12 dc12 pm12 cd12 ct12 : Value}
    {f13 : Addr} {od13 an13 : Option Addr} {sl13 : Array (Option Value)} {oc13 kV13 dc13 pm13 cd13 ct13 : Value}
    {f14 : Addr} {od14 an14 : Option Addr} {sl14 : Array (Option Value)} {oc14 kV14 dc14 pm14 cd14 ct14 : Value}
    {f15 : Addr} {od15 an15 : Option Addr} {sl15 : Array (Option Value)} {oc15 kV15 dc15 pm15 cd15 ct15 : Value}
    {f16 : Addr} {od16 an16 : Option Addr} {sl16 : Array (Option Value)} {oc16 kV16 dc16 pm16 cd16 ct16 : Value}
    {f17 : Addr} {od17 an17 : Option Addr} {sl17 : Array (Option Value)} {oc17 kV17 dc17 pm17 cd17 ct17 : Value}
    {f18 : Addr} {od18 an18 : Option Addr} {sl18 : Array (Option Value)} {oc18 kV18 dc18 pm18 cd18 ct18 : Value}
    {f19 : Addr} {od19 an19 : Option Addr} {sl19 : Array (Option Value)} {oc19 kV19 dc19 pm19 cd19 ct19 : Value}
    {f20 : Addr} {od20 an20 : Option Addr} {sl20 : Array (Option Value)} {oc20 kV20 dc20 pm20 cd20 ct20 : Value}
    {f21 : Addr} {od21 an21 : Option Addr} {sl21 : Array (Option Value)} {oc21 kV21 dc21 pm21 cd21 ct21 : Value}
    {f22 : Addr} {od22 an22 : Option Addr} {sl22 : Array (Option Value)} {oc22 kV22 dc22 pm22 cd22 ct22 : Value}
    {f23 : Addr} {od23 an23 : Option Addr} {sl23 : Array (Option Value)} {oc23 kV23 dc23 pm23 cd23 ct23 : Value}
    {f24 : Addr} {od24 an24 : Option Addr} {sl24 : Array (Option Value)} {oc24 kV24 dc24 pm24 cd24 ct24 : Value}
    {f25 : Addr} {od25 an25 : Option Addr} {sl25 : Array (Option Value)} {oc25 kV25 dc25 pm25 cd25 ct25 : Value}
    {f26 : Addr} {od26 an26 : Option Addr} {sl26 : Array (Option Value)} {oc26 kV26 dc26 pm26 cd26 ct26 : Value}
    {f27 : Addr} {od27 an27 : Option Addr} {sl27 : Array (Option Value)} {oc27 kV27 dc27 pm27 cd27 ct27 : Value}
    {f28 : Addr} {od28 an28 : Option Addr} {sl28 : Array (Option Value)} {oc28 kV28 dc28 pm28 cd28 ct28 : Value}
    {f29 : Addr} {od29 an29 : Option Addr} {sl29 : Array (Option Value)} {oc29 kV29 dc29 pm29 cd29 ct29 : Value}
    {f30 : Addr} {od30 an30 : Option Addr} {sl30 : Array (Option Value)} {oc30 kV30 dc30 pm30 cd30 ct30 : Value}
    {f31 : Addr} {od31 an31 : Option Addr} {sl31 : Array (Option Value)} {oc31 kV31 dc31 pm31 cd31 ct31 : Value}
    {f32 : Addr} {od32 an32 : Option Addr} {sl32 : Array (Option Value)} {oc32 kV32 dc32 pm32 cd32 ct32 : Value}
    {g0 cc0 P0 : Addr} {gd0 gn0 gg0 : Option Addr} {gl0 gm0 : Array (Option Value)} {gc0 gV0 gdc0 gp0 gt0 ge0 : Value} {gv0 : Array Value}
    {g1 cc1 P1 : Addr} {gd1 gn1 gg1 : Option Addr} {gl1 gm1 : Array (Option Value)} {gc1 gV1 gdc1 gp1 gt1 ge1 : Value} {gv1 : Array Value}
    {g2 cc2 P2 : Addr} {gd2 gn2 gg2 : Option Addr} {gl2 gm2 : Array (Option Value)} {gc2 gV2 gdc2 gp2 gt2 ge2 : Value} {gv2 : Array Value}
    {x0 x1 x2 x3 x4 x5 xp : Addr}
    {t0 : Tok}
    {t1 : Tok}
    {t2 : Tok}
    (a0 : PySem.W.nsIn K mainGlobals "is_whole" = some (some (.ref f0)))
    (l0 : K.lookup f0 = some ⟨oc0, od0, .func (PySem.W.fnOf "is_whole" "is_whole" (defArgs s_is_whole) (defBody s_is_whole) (defScope s_is_whole) .none kV0 dc0 pm0 an0 cd0 ct0), sl0⟩)
    (c0 : PySem.W.codeIn K cd0 "is_whole" = true)
    (k0 : PySem.W.keepIn K (.ref f0) = true)
    (a1 : PySem.W.nsIn K mainGlobals "is_within" = some (some (.ref f1)))
    (l1 : K.lookup f1 = some ⟨oc1, od1, .func (PySem.W.fnOf "is_within" "is_within" (defArgs s_is_within) (defBody s_is_within) (defScope s_is_within) .none kV1 dc1 pm1 an1 cd1 ct1), sl1⟩)
    (c1 : PySem.W.codeIn K cd1 "is_within" = true)
    (k1 : PySem.W.keepIn K (.ref f1) = true)
    (a2 : PySem.W.nsIn K mainGlobals "are_some" = some (some (.ref f2)))
    (l2 : K.lookup f2 = some ⟨oc2, od2, .func (PySem.W.fnOf "are_some" "are_some" (defArgs s_are_some) (defBody s_are_some) (defScope s_are_some) .none kV2 dc2 pm2 an2 cd2 ct2), sl2⟩)
    (c2 : PySem.W.codeIn K cd2 "are_some" = true)
    (k2 : PySem.W.keepIn K (.ref f2) = true)
    (a3 : PySem.W.nsIn K mainGlobals "is_sale" = some (some (.ref f3)))
    (l3 : K.lookup f3 = some ⟨oc3, od3, .func (PySem.W.fnOf "is_sale" "is_sale" (defArgs s_is_sale) (defBody s_is_sale) (defScope s_is_sale) .none kV3 dc3 pm3 an3 cd3 ct3), sl3⟩)
    (c3 : PySem.W.codeIn K cd3 "is_sale" = true)
    (k3 : PySem.W.keepIn K (.ref f3) = true)
    (a4 : PySem.W.nsIn K mainGlobals "look_at_market" = some (some (.ref f4)))
    (l4 : K.lookup f4 = some ⟨oc4, od4, .func (PySem.W.fnOf "look_at_market" "look_at_market" (defArgs s_look_at_market) (defBody s_look_at_market) (defScope s_look_at_market) .none kV4 dc4 pm4 an4 cd4 ct4), sl4⟩)
    (c4 : PySem.W.codeIn K cd4 "look_at_market" = true)
    (k4 : PySem.W.keepIn K (.ref f4) = true)
    (a5 : PySem.W.nsIn K mainGlobals "is_log_of" = some (some (.ref f5)))
    (l5 : K.lookup f5 = some ⟨oc5, od5, .func (PySem.W.fnOf "is_log_of" "is_log_of" (defArgs s_is_log_of) (defBody s_is_log_of) (defScope s_is_log_of) .none kV5 dc5 pm5 an5 cd5 ct5), sl5⟩)
    (c5 : PySem.W.codeIn K cd5 "is_log_of" = true)
    (k5 : PySem.W.keepIn K (.ref f5) = true)
    (a6 : PySem.W.nsIn K mainGlobals "is_log" = some (some (.ref f6)))
    (l6 : K.lookup f6 = some ⟨oc6, od6, .func (PySem.W.fnOf "is_log" "is_log" (defArgs s_is_log) (defBody s_is_log) (defScope s_is_log) .none kV6 dc6 pm6 an6 cd6 ct6), sl6⟩)
    (c6 : PySem.W.codeIn K cd6 "is_log" = true)
    (k6 : PySem.W.keepIn K (.ref f6) = true)
    (a7 : PySem.W.nsIn K mainGlobals "look_at" = some (some (.ref f7)))
    (l7 : K.lookup f7 = some ⟨oc7, od7, .func (PySem.W.fnOf "look_at" "look_at" (defArgs s_look_at) (defBody s_look_at) (defScope s_look_at) .none kV7 dc7 pm7 an7 cd7 ct7), sl7⟩)
    (c7 : PySem.W.codeIn K cd7 "look_at" = true)
    (k7 : PySem.W.keepIn K (.ref f7) = true)
    (a8 : PySem.W.nsIn K mainGlobals "look_at_sale" = some (some (.ref f8)))
    (l8 : K.lookup f8 = some ⟨oc8, od8, .func (PySem.W.fnOf "look_at_sale" "look_at_sale" (defArgs s_look_at_sale) (defBody s_look_at_sale) (defScope s_look_at_sale) .none kV8 dc8 pm8 an8 cd8 ct8), sl8⟩)
    (c8 : PySem.W.codeIn K cd8 "look_at_sale" = true)
    (k8 : PySem.W.keepIn K (.ref f8) = true)
    (a9 : PySem.W.nsIn K mainGlobals "fits" = some (some (.ref f9)))
    (l9 : K.lookup f9 = some ⟨oc9, od9, .func (PySem.W.fnOf "fits" "fits" (defArgs s_fits) (defBody s_fits) (defScope s_fits) .none kV9 dc9 pm9 an9 cd9 ct9), sl9⟩)
    (c9 : PySem.W.codeIn K cd9 "fits" = true)
    (k9 : PySem.W.keepIn K (.ref f9) = true)
    (a10 : PySem.W.nsIn K mainGlobals "can_be" = some (some (.ref f10)))
    (l10 : K.lookup f10 = some ⟨oc10, od10, .func (PySem.W.fnOf "can_be" "can_be" (defArgs s_can_be) (defBody s_can_be) (defScope s_can_be) .none kV10 dc10 pm10 an10 cd10 ct10), sl10⟩)
    (c10 : PySem.W.codeIn K cd10 "can_be" = true)
    (k10 : PySem.W.keepIn K (.ref f10) = true)
    (a11 : PySem.W.nsIn K mainGlobals "bar" = some (some (.ref f11)))
    (l11 : K.lookup f11 = some ⟨oc11, od11, .func (PySem.W.fnOf "bar" "bar" (defArgs s_bar) (defBody s_bar) (defScope s_bar) .none kV11 dc11 pm11 an11 cd11 ct11), sl11⟩)
    (c11 : PySem.W.codeIn K cd11 "bar" = true)
    (k11 : PySem.W.keepIn K (.ref f11) = true)
    (a12 : PySem.W.nsIn K mainGlobals "is_bar" = some (some (.ref f12)))
    (l12 : K.lookup f12 = some ⟨oc12, od12, .func (PySem.W.fnOf "is_bar" "is_bar" (defArgs s_is_bar) (defBody s_is_bar) (defScope s_is_bar) .none kV12 dc12 pm12 an12 cd12 ct12), sl12⟩)
    (c12 : PySem.W.codeIn K cd12 "is_bar" = true)
    (k12 : PySem.W.keepIn K (.ref f12) = true)
    (a13 : PySem.W.nsIn K mainGlobals "how_many" = some (some (.ref f13)))
    (l13 : K.lookup f13 = some ⟨oc13, od13, .func (PySem.W.fnOf "how_many" "how_many" (defArgs s_how_many) (defBody s_how_many) (defScope s_how_many) .none kV13 dc13 pm13 an13 cd13 ct13), sl13⟩)
    (c13 : PySem.W.codeIn K cd13 "how_many" = true)
    (k13 : PySem.W.keepIn K (.ref f13) = true)
    (a14 : PySem.W.nsIn K mainGlobals "worths" = some (some (.ref f14)))
    (l14 : K.lookup f14 = some ⟨oc14, od14, .func (PySem.W.fnOf "worths" "worths" (defArgs s_worths) (defBody s_worths) (defScope s_worths) .none kV14 dc14 pm14 an14 cd14 ct14), sl14⟩)
    (c14 : PySem.W.codeIn K cd14 "worths" = true)
    (k14 : PySem.W.keepIn K (.ref f14) = true)
    (a15 : PySem.W.nsIn K mainGlobals "setters" = some (some (.ref f15)))
    (l15 : K.lookup f15 = some ⟨oc15, od15, .func (PySem.W.fnOf "setters" "setters" (defArgs s_setters) (defBody s_setters) (defScope s_setters) .none kV15 dc15 pm15 an15 cd15 ct15), sl15⟩)
    (c15 : PySem.W.codeIn K cd15 "setters" = true)
    (k15 : PySem.W.keepIn K (.ref f15) = true)
    (a16 : PySem.W.nsIn K mainGlobals "ways_set" = some (some (.ref f16)))
    (l16 : K.lookup f16 = some ⟨oc16, od16, .func (PySem.W.fnOf "ways_set" "ways_set" (defArgs s_ways_set) (defBody s_ways_set) (defScope s_ways_set) .none kV16 dc16 pm16 an16 cd16 ct16), sl16⟩)
    (c16 : PySem.W.codeIn K cd16 "ways_set" = true)
    (k16 : PySem.W.keepIn K (.ref f16) = true)
    (a17 : PySem.W.nsIn K mainGlobals "gains" = some (some (.ref f17)))
    (l17 : K.lookup f17 = some ⟨oc17, od17, .func (PySem.W.fnOf "gains" "gains" (defArgs s_gains) (defBody s_gains) (defScope s_gains) .none kV17 dc17 pm17 an17 cd17 ct17), sl17⟩)
    (c17 : PySem.W.codeIn K cd17 "gains" = true)
    (k17 : PySem.W.keepIn K (.ref f17) = true)
    (a18 : PySem.W.nsIn K mainGlobals "fewest_setters" = some (some (.ref f18)))
    (l18 : K.lookup f18 = some ⟨oc18, od18, .func (PySem.W.fnOf "fewest_setters" "fewest_setters" (defArgs s_fewest_setters) (defBody s_fewest_setters) (defScope s_fewest_setters) .none kV18 dc18 pm18 an18 cd18 ct18), sl18⟩)
    (c18 : PySem.W.codeIn K cd18 "fewest_setters" = true)
    (k18 : PySem.W.keepIn K (.ref f18) = true)
    (a19 : PySem.W.nsIn K mainGlobals "next_buyers" = some (some (.ref f19)))
    (l19 : K.lookup f19 = some ⟨oc19, od19, .func (PySem.W.fnOf "next_buyers" "next_buyers" (defArgs s_next_buyers) (defBody s_next_buyers) (defScope s_next_buyers) .none kV19 dc19 pm19 an19 cd19 ct19), sl19⟩)
    (c19 : PySem.W.codeIn K cd19 "next_buyers" = true)
    (k19 : PySem.W.keepIn K (.ref f19) = true)
    (a20 : PySem.W.nsIn K mainGlobals "false_ones" = some (some (.ref f20)))
    (l20 : K.lookup f20 = some ⟨oc20, od20, .func (PySem.W.fnOf "false_ones" "false_ones" (defArgs s_false_ones) (defBody s_false_ones) (defScope s_false_ones) .none kV20 dc20 pm20 an20 cd20 ct20), sl20⟩)
    (c20 : PySem.W.codeIn K cd20 "false_ones" = true)
    (k20 : PySem.W.keepIn K (.ref f20) = true)
    (a21 : PySem.W.nsIn K mainGlobals "_law_well" = some (some (.ref f21)))
    (l21 : K.lookup f21 = some ⟨oc21, od21, .func (PySem.W.fnOf "_law_well" "_law_well" (defArgs s__law_well) (defBody s__law_well) (defScope s__law_well) .none kV21 dc21 pm21 an21 cd21 ct21), sl21⟩)
    (c21 : PySem.W.codeIn K cd21 "_law_well" = true)
    (k21 : PySem.W.keepIn K (.ref f21) = true)
    (a22 : PySem.W.nsIn K mainGlobals "_law_take" = some (some (.ref f22)))
    (l22 : K.lookup f22 = some ⟨oc22, od22, .func (PySem.W.fnOf "_law_take" "_law_take" (defArgs s__law_take) (defBody s__law_take) (defScope s__law_take) .none kV22 dc22 pm22 an22 cd22 ct22), sl22⟩)
    (c22 : PySem.W.codeIn K cd22 "_law_take" = true)
    (k22 : PySem.W.keepIn K (.ref f22) = true)
    (a23 : PySem.W.nsIn K mainGlobals "_law_bags" = some (some (.ref f23)))
    (l23 : K.lookup f23 = some ⟨oc23, od23, .func (PySem.W.fnOf "_law_bags" "_law_bags" (defArgs s__law_bags) (defBody s__law_bags) (defScope s__law_bags) .none kV23 dc23 pm23 an23 cd23 ct23), sl23⟩)
    (c23 : PySem.W.codeIn K cd23 "_law_bags" = true)
    (k23 : PySem.W.keepIn K (.ref f23) = true)
    (a24 : PySem.W.nsIn K mainGlobals "_law_same" = some (some (.ref f24)))
    (l24 : K.lookup f24 = some ⟨oc24, od24, .func (PySem.W.fnOf "_law_same" "_law_same" (defArgs s__law_same) (defBody s__law_same) (defScope s__law_same) .none kV24 dc24 pm24 an24 cd24 ct24), sl24⟩)
    (c24 : PySem.W.codeIn K cd24 "_law_same" = true)
    (k24 : PySem.W.keepIn K (.ref f24) = true)
    (a25 : PySem.W.nsIn K mainGlobals "_law_in" = some (some (.ref f25)))
    (l25 : K.lookup f25 = some ⟨oc25, od25, .func (PySem.W.fnOf "_law_in" "_law_in" (defArgs s__law_in) (defBody s__law_in) (defScope s__law_in) .none kV25 dc25 pm25 an25 cd25 ct25), sl25⟩)
    (c25 : PySem.W.codeIn K cd25 "_law_in" = true)
    (k25 : PySem.W.keepIn K (.ref f25) = true)
    (a26 : PySem.W.nsIn K mainGlobals "_law_kind" = some (some (.ref f26)))
    (l26 : K.lookup f26 = some ⟨oc26, od26, .func (PySem.W.fnOf "_law_kind" "_law_kind" (defArgs s__law_kind) (defBody s__law_kind) (defScope s__law_kind) .none kV26 dc26 pm26 an26 cd26 ct26), sl26⟩)
    (c26 : PySem.W.codeIn K cd26 "_law_kind" = true)
    (k26 : PySem.W.keepIn K (.ref f26) = true)
    (a27 : PySem.W.nsIn K mainGlobals "_law_tried" = some (some (.ref f27)))
    (l27 : K.lookup f27 = some ⟨oc27, od27, .func (PySem.W.fnOf "_law_tried" "_law_tried" (defArgs s__law_tried) (defBody s__law_tried) (defScope s__law_tried) .none kV27 dc27 pm27 an27 cd27 ct27), sl27⟩)
    (c27 : PySem.W.codeIn K cd27 "_law_tried" = true)
    (k27 : PySem.W.keepIn K (.ref f27) = true)
    (a28 : PySem.W.nsIn K mainGlobals "_law_some" = some (some (.ref f28)))
    (l28 : K.lookup f28 = some ⟨oc28, od28, .func (PySem.W.fnOf "_law_some" "_law_some" (defArgs s__law_some) (defBody s__law_some) (defScope s__law_some) .none kV28 dc28 pm28 an28 cd28 ct28), sl28⟩)
    (c28 : PySem.W.codeIn K cd28 "_law_some" = true)
    (k28 : PySem.W.keepIn K (.ref f28) = true)
    (a29 : PySem.W.nsIn K mainGlobals "_law_market" = some (some (.ref f29)))
    (l29 : K.lookup f29 = some ⟨oc29, od29, .func (PySem.W.fnOf "_law_market" "_law_market" (defArgs s__law_market) (defBody s__law_market) (defScope s__law_market) .none kV29 dc29 pm29 an29 cd29 ct29), sl29⟩)
    (c29 : PySem.W.codeIn K cd29 "_law_market" = true)
    (k29 : PySem.W.keepIn K (.ref f29) = true)
    (a30 : PySem.W.nsIn K mainGlobals "_law_good" = some (some (.ref f30)))
    (l30 : K.lookup f30 = some ⟨oc30, od30, .func (PySem.W.fnOf "_law_good" "_law_good" (defArgs s__law_good) (defBody s__law_good) (defScope s__law_good) .none kV30 dc30 pm30 an30 cd30 ct30), sl30⟩)
    (c30 : PySem.W.codeIn K cd30 "_law_good" = true)
    (k30 : PySem.W.keepIn K (.ref f30) = true)
    (a31 : PySem.W.nsIn K mainGlobals "_law_odd" = some (some (.ref f31)))
    (l31 : K.lookup f31 = some ⟨oc31, od31, .func (PySem.W.fnOf "_law_odd" "_law_odd" (defArgs s__law_odd) (defBody s__law_odd) (defScope s__law_odd) .none kV31 dc31 pm31 an31 cd31 ct31), sl31⟩)
    (c31 : PySem.W.codeIn K cd31 "_law_odd" = true)
    (k31 : PySem.W.keepIn K (.ref f31) = true)
    (a32 : PySem.W.nsIn K mainGlobals "_law_refused" = some (some (.ref f32)))
    (l32 : K.lookup f32 = some ⟨oc32, od32, .func (PySem.W.fnOf "_law_refused" "_law_refused" (defArgs s__law_refused) (defBody s__law_refused) (defScope s__law_refused) .none kV32 dc32 pm32 an32 cd32 ct32), sl32⟩)
    (c32 : PySem.W.codeIn K cd32 "_law_refused" = true)
    (k32 : PySem.W.keepIn K (.ref f32) = true)
    (ga0 : PySem.W.nsIn K mainGlobals "_law_doors" = some (some (.ref g0)))
    (gb0 : K.lookup g0 = some ⟨gc0, gd0, .func (PySem.W.fnOf "_law_doors" "_law_doors" (defArgs s__law_doors) (defBody s__law_doors) (defScope s__law_doors) .none gV0 gdc0 gp0 gn0 (.ref cc0) gt0), gl0⟩)
    (gh0 : PySem.W.codeIn K (.ref cc0) "_law_doors" = true)
    (gk0 : PySem.W.keepIn K (.ref g0) = true)
    (gr0 : K.lookup cc0 = some ⟨ge0, gg0, .fields gv0, gm0⟩)
    (gs0 : gv0[11]? = some (.ref P0))
    (gz0 : K.lookup P0 = none)
    (ga1 : PySem.W.nsIn K mainGlobals "_law_later_refused" = some (some (.ref g1)))
    (gb1 : K.lookup g1 = some ⟨gc1, gd1, .func (PySem.W.fnOf "_law_later_refused" "_law_later_refused" (defArgs s__law_later) (defBody s__law_later) (defScope s__law_later) .none gV1 gdc1 gp1 gn1 (.ref cc1) gt1), gl1⟩)
    (gh1 : PySem.W.codeIn K (.ref cc1) "_law_later_refused" = true)
    (gk1 : PySem.W.keepIn K (.ref g1) = true)
    (gr1 : K.lookup cc1 = some ⟨ge1, gg1, .fields gv1, gm1⟩)
    (gs1 : gv1[11]? = some (.ref P1))
    (gz1 : K.lookup P1 = none)
    (ga2 : PySem.W.nsIn K mainGlobals "law" = some (some (.ref g2)))
    (gb2 : K.lookup g2 = some ⟨gc2, gd2, .func (PySem.W.fnOf "law" "law" (defArgs s_law) (defBody s_law) (defScope s_law) .none gV2 gdc2 gp2 gn2 (.ref cc2) gt2), gl2⟩)
    (gh2 : PySem.W.codeIn K (.ref cc2) "law" = true)
    (gk2 : PySem.W.keepIn K (.ref g2) = true)
    (gr2 : K.lookup cc2 = some ⟨ge2, gg2, .fields gv2, gm2⟩)
    (gs2 : gv2[11]? = some (.ref P2))
    (gz2 : K.lookup P2 = none)
    (n12 : P0 ≠ P1)
    (n13 : P0 ≠ P2)
    (n23 : P1 ≠ P2)
    (ea0 : PySem.W.nsIn K mainGlobals "NoFolk" = some (some (.ref x0)))
    (ek0 : PySem.W.keepIn K (.ref x0) = true)
    (ex0 : PySem.W.excIn K x0 [.type "ValueError", .type "Exception", .type "BaseException", .type "object"] "ValueError.__new__" = true)
    (es0 : PySem.W.subIn K (.ref x0) (.type "BaseException") = some true)
    (et0 : PySem.W.typeIn K (.ref x0) = some (.type "type"))
    (eg0 : PySem.W.findIn K (.ref x0) "__getattribute__" = some (some (.builtin "BaseException.__getattribute__")))
    (eh0 : PySem.W.findIn K (.ref x0) "__getattr__" = some none)
    (ed0 : PySem.W.hasDictIn K x0 = true)
    (ec0 : PySem.W.findIn K (.ref x0) "__class__" = some (some (.builtin "object.__class__")))
    (em0 : PySem.W.mroIn K x0 (.type "object") = some true)
    (ea1 : PySem.W.nsIn K mainGlobals "NoTop" = some (some (.ref x1)))
    (ek1 : PySem.W.keepIn K (.ref x1) = true)
    (ex1 : PySem.W.excIn K x1 [.type "ValueError", .type "Exception", .type "BaseException", .type "object"] "ValueError.__new__" = true)
    (es1 : PySem.W.subIn K (.ref x1) (.type "BaseException") = some true)
    (et1 : PySem.W.typeIn K (.ref x1) = some (.type "type"))
    (eg1 : PySem.W.findIn K (.ref x1) "__getattribute__" = some (some (.builtin "BaseException.__getattribute__")))
    (eh1 : PySem.W.findIn K (.ref x1) "__getattr__" = some none)
    (ed1 : PySem.W.hasDictIn K x1 = true)
    (ec1 : PySem.W.findIn K (.ref x1) "__class__" = some (some (.builtin "object.__class__")))
    (em1 : PySem.W.mroIn K x1 (.type "object") = some true)
    (ea2 : PySem.W.nsIn K mainGlobals "NoLog" = some (some (.ref x2)))
    (ek2 : PySem.W.keepIn K (.ref x2) = true)
    (ex2 : PySem.W.excIn K x2 [.type "ValueError", .type "Exception", .type "BaseException", .type "object"] "ValueError.__new__" = true)
    (es2 : PySem.W.subIn K (.ref x2) (.type "BaseException") = some true)
    (et2 : PySem.W.typeIn K (.ref x2) = some (.type "type"))
    (eg2 : PySem.W.findIn K (.ref x2) "__getattribute__" = some (some (.builtin "BaseException.__getattribute__")))
    (eh2 : PySem.W.findIn K (.ref x2) "__getattr__" = some none)
    (ed2 : PySem.W.hasDictIn K x2 = true)
    (ec2 : PySem.W.findIn K (.ref x2) "__class__" = some (some (.builtin "object.__class__")))
    (em2 : PySem.W.mroIn K x2 (.type "object") = some true)
    (ea3 : PySem.W.nsIn K mainGlobals "NoSale" = some (some (.ref x3)))
    (ek3 : PySem.W.keepIn K (.ref x3) = true)
    (ex3 : PySem.W.excIn K x3 [.type "ValueError", .type "Exception", .type "BaseException", .type "object"] "ValueError.__new__" = true)
    (es3 : PySem.W.subIn K (.ref x3) (.type "BaseException") = some true)
    (et3 : PySem.W.typeIn K (.ref x3) = some (.type "type"))
    (eg3 : PySem.W.findIn K (.ref x3) "__getattribute__" = some (some (.builtin "BaseException.__getattribute__")))
    (eh3 : PySem.W.findIn K (.ref x3) "__getattr__" = some none)
    (ed3 : PySem.W.hasDictIn K x3 = true)
    (ec3 : PySem.W.findIn K (.ref x3) "__class__" = some (some (.builtin "object.__class__")))
    (em3 : PySem.W.mroIn K x3 (.type "object") = some true)
    (ea4 : PySem.W.nsIn K mainGlobals "NoWho" = some (some (.ref x4)))
    (ek4 : PySem.W.keepIn K (.ref x4) = true)
    (ex4 : PySem.W.excIn K x4 [.type "ValueError", .type "Exception", .type "BaseException", .type "object"] "ValueError.__new__" = true)
    (es4 : PySem.W.subIn K (.ref x4) (.type "BaseException") = some true)
    (et4 : PySem.W.typeIn K (.ref x4) = some (.type "type"))
    (eg4 : PySem.W.findIn K (.ref x4) "__getattribute__" = some (some (.builtin "BaseException.__getattribute__")))
    (eh4 : PySem.W.findIn K (.ref x4) "__getattr__" = some none)
    (ed4 : PySem.W.hasDictIn K x4 = true)
    (ec4 : PySem.W.findIn K (.ref x4) "__class__" = some (some (.builtin "object.__class__")))
    (em4 : PySem.W.mroIn K x4 (.type "object") = some true)
    (ea5 : PySem.W.nsIn K mainGlobals "NoNext" = some (some (.ref x5)))
    (ek5 : PySem.W.keepIn K (.ref x5) = true)
    (ex5 : PySem.W.excIn K x5 [.type "ValueError", .type "Exception", .type "BaseException", .type "object"] "ValueError.__new__" = true)
    (es5 : PySem.W.subIn K (.ref x5) (.type "BaseException") = some true)
    (et5 : PySem.W.typeIn K (.ref x5) = some (.type "type"))
    (eg5 : PySem.W.findIn K (.ref x5) "__getattribute__" = some (some (.builtin "BaseException.__getattribute__")))
    (eh5 : PySem.W.findIn K (.ref x5) "__getattr__" = some none)
    (ed5 : PySem.W.hasDictIn K x5 = true)
    (ec5 : PySem.W.findIn K (.ref x5) "__class__" = some (some (.builtin "object.__class__")))
    (em5 : PySem.W.mroIn K x5 (.type "object") = some true)
    (pa : PySem.W.nsIn K mainGlobals "PaidError" = some (some (.ref xp)))
    (ps : PySem.W.subIn K (.ref xp) (.type "BaseException") = some true)
    (pd : PySem.W.hasDictIn K xp = true)
    (pt : PySem.W.typeIn K (.ref xp) = some (.type "type"))
    (q1 : PySem.W.specialIn K (.builtin "object.__class__") "__get__" = some (some (.builtin "getset_descriptor.__get__")))
    (q2 : PySem.W.takesIn K (.builtin "object.__class__") = some true)
    (pp0 : PySem.W.subIn K (.ref x0) (.ref xp) = some true)
    (ss00 : PySem.W.subIn K (.ref x0) (.ref x0) = some true)
    (ss01 : PySem.W.subIn K (.ref x0) (.ref x1) = some false)
    (ss02 : PySem.W.subIn K (.ref x0) (.ref x2) = some false)
    (ss03 : PySem.W.subIn K (.ref x0) (.ref x3) = some false)
    (ss04 : PySem.W.subIn K (.ref x0) (.ref x4) = some false)
    (ss05 : PySem.W.subIn K (.ref x0) (.ref x5) = some false)
    (pp1 : PySem.W.subIn K (.ref x1) (.ref xp) = some true)
    (ss10 : PySem.W.subIn K (.ref x1) (.ref x0) = some false)
    (ss11 : PySem.W.subIn K (.ref x1) (.ref x1) = some true)
    (ss12 : PySem.W.subIn K (.ref x1) (.ref x2) = some false)
    (ss13 : PySem.W.subIn K (.ref x1) (.ref x3) = some false)
    (ss14 : PySem.W.subIn K (.ref x1) (.ref x4) = some false)
    (ss15 : PySem.W.subIn K (.ref x1) (.ref x5) = some false)
    (pp2 : PySem.W.subIn K (.ref x2) (.ref xp) = some true)
    (ss20 : PySem.W.subIn K (.ref x2) (.ref x0) = some false)
    (ss21 : PySem.W.subIn K (.ref x2) (.ref x1) = some false)
    (ss22 : PySem.W.subIn K (.ref x2) (.ref x2) = some true)
    (ss23 : PySem.W.subIn K (.ref x2) (.ref x3) = some false)
    (ss24 : PySem.W.subIn K (.ref x2) (.ref x4) = some false)
    (ss25 : PySem.W.subIn K (.ref x2) (.ref x5) = some false)
    (pp3 : PySem.W.subIn K (.ref x3) (.ref xp) = some true)
    (ss30 : PySem.W.subIn K (.ref x3) (.ref x0) = some false)
    (ss31 : PySem.W.subIn K (.ref x3) (.ref x1) = some false)
    (ss32 : PySem.W.subIn K (.ref x3) (.ref x2) = some false)
    (ss33 : PySem.W.subIn K (.ref x3) (.ref x3) = some true)
    (ss34 : PySem.W.subIn K (.ref x3) (.ref x4) = some false)
    (ss35 : PySem.W.subIn K (.ref x3) (.ref x5) = some false)
    (pp4 : PySem.W.subIn K (.ref x4) (.ref xp) = some true)
    (ss40 : PySem.W.subIn K (.ref x4) (.ref x0) = some false)
    (ss41 : PySem.W.subIn K (.ref x4) (.ref x1) = some false)
    (ss42 : PySem.W.subIn K (.ref x4) (.ref x2) = some false)
    (ss43 : PySem.W.subIn K (.ref x4) (.ref x3) = some false)
    (ss44 : PySem.W.subIn K (.ref x4) (.ref x4) = some true)
    (ss45 : PySem.W.subIn K (.ref x4) (.ref x5) = some false)
    (pp5 : PySem.W.subIn K (.ref x5) (.ref xp) = some true)
    (ss50 : PySem.W.subIn K (.ref x5) (.ref x0) = some false)
    (ss51 : PySem.W.subIn K (.ref x5) (.ref x1) = some false)
    (ss52 : PySem.W.subIn K (.ref x5) (.ref x2) = some false)
    (ss53 : PySem.W.subIn K (.ref x5) (.ref x3) = some false)
    (ss54 : PySem.W.subIn K (.ref x5) (.ref x4) = some false)
    (ss55 : PySem.W.subIn K (.ref x5) (.ref x5) = some true)
    (v0 : PySem.W.nsIn K mainGlobals "MOST_FOLK" = some (some (.int 8 t0)))
    (v1 : PySem.W.nsIn K mainGlobals "MOST_TOP" = some (some (.int 1000 t1)))
    (v2 : PySem.W.nsIn K mainGlobals "MOST_SALES" = some (some (.int 8 t2)))
    (z0 : PySem.W.nsIn K mainGlobals "len" = some none)
    (z1 : PySem.W.nsIn K mainGlobals "all" = some none)
    (z2 : PySem.W.nsIn K mainGlobals "any" = some none)
    (z3 : PySem.W.nsIn K mainGlobals "sum" = some none)
    (z4 : PySem.W.nsIn K mainGlobals "max" = some none)
    (z5 : PySem.W.nsIn K mainGlobals "min" = some none)
    (z6 : PySem.W.nsIn K mainGlobals "sorted" = some none)
    (z7 : PySem.W.nsIn K mainGlobals "range" = some none)
    (z8 : PySem.W.nsIn K mainGlobals "zip" = some none)
    (z9 : PySem.W.nsIn K mainGlobals "enumerate" = some none)
    (z10 : PySem.W.nsIn K mainGlobals "list" = some none)
    (z11 : PySem.W.nsIn K mainGlobals "tuple" = some none)
    (z12 : PySem.W.nsIn K mainGlobals "isinstance" = some none)
    (z13 : PySem.W.nsIn K mainGlobals "int" = some none)
    (z14 : PySem.W.nsIn K mainGlobals "bool" = some none)
    (z15 : PySem.W.nsIn K mainGlobals "str" = some none)
    : LamX.LawAtS l w K CX0 12 63 "script" mg fa h := by
  have e := hfa.symm.trans (PySem.W.mg_of X G ga2)
  cases e
  have ti0 := tabs "_law_doors" (by simp) _ _ (tabIn_of ga0 gb0 rfl gr0 gs0)
  have ti1 := tabs "_law_later_refused" (by simp) _ _ (tabIn_of ga1 gb1 rfl gr1 gs1)
  have ti2 := tabs "law" (by simp) _ _ (tabIn_of ga2 gb2 rfl gr2 gs2)
  let Tt : List (Addr × Str) := [(P0, q__law_doors ++ "<lambda>"), (P1, q__law_later ++ "<lambda>"), (P2, q_law ++ "<lambda>")]
  let er : Err → Addr := erOf x0 x1 x2 x3 x4 x5
  have bl : ∀ base, Bl ⟨l.prog, w, ⟨K, Tt⟩, mg, base⟩ := fun base => ⟨PySem.W.mg_none_of X G z0, PySem.W.mg_none_of X G z1, PySem.W.mg_none_of X G z2, PySem.W.mg_none_of X G z3, PySem.W.mg_none_of X G z4, PySem.W.mg_none_of X G z5, PySem.W.mg_none_of X G z6, PySem.W.mg_none_of X G z7, PySem.W.mg_none_of X G z8, PySem.W.mg_none_of X G z9, PySem.W.mg_none_of X G z10, PySem.W.mg_none_of X G z11, PySem.W.mg_none_of X G z12, PySem.W.mg_none_of X G z13, PySem.W.mg_none_of X G z14, PySem.W.mg_none_of X G z15⟩
  have eo : ∀ base, ErOk ⟨l.prog, w, ⟨K, Tt⟩, mg, base⟩ er := fun base => ⟨fun k => match k with | .folk => PySem.W.mg_of X G ea0 | .top => PySem.W.mg_of X G ea1 | .log => PySem.W.mg_of X G ea2 | .sale => PySem.W.mg_of X G ea3 | .who => PySem.W.mg_of X G ea4 | .next => PySem.W.mg_of X G ea5, fun k => match k with | .folk => ek0 | .top => ek1 | .log => ek2 | .sale => ek3 | .who => ek4 | .next => ek5, fun k => match k with | .folk => ex0 | .top => ex1 | .log => ex2 | .sale => ex3 | .who => ex4 | .next => ex5, fun k => match k with | .folk => es0 | .top => es1 | .log => es2 | .sale => es3 | .who => es4 | .next => es5, fun k => match k with | .folk => et0 | .top => et1 | .log => et2 | .sale => et3 | .who => et4 | .next => et5⟩
  have ei : ∀ base, ErIs ⟨l.prog, w, ⟨K, Tt⟩, mg, base⟩ er := fun base => ⟨fun k => match k with | .folk => ⟨eg0, eh0, es0, ed0, ec0, q1, q2, em0⟩ | .top => ⟨eg1, eh1, es1, ed1, ec1, q1, q2, em1⟩ | .log => ⟨eg2, eh2, es2, ed2, ec2, q1, q2, em2⟩ | .sale => ⟨eg3, eh3, es3, ed3, ec3, q1, q2, em3⟩ | .who => ⟨eg4, eh4, es4, ed4, ec4, q1, q2, em4⟩ | .next => ⟨eg5, eh5, es5, ed5, ec5, q1, q2, em5⟩, kit_all (fun k => match k with | .folk => ed0 | .top => ed1 | .log => ed2 | .sale => ed3 | .who => ed4 | .next => ed5) (fun k => match k with | .folk => et0 | .top => et1 | .log => et2 | .sale => et3 | .who => et4 | .next => et5) (fun k k' => match k, k' with | .folk, .folk => ss00 | .folk, .top => ss01 | .folk, .log => ss02 | .folk, .sale => ss03 | .folk, .who => ss04 | .folk, .next => ss05 | .top, .folk => ss10 | .top, .top => ss11 | .top, .log => ss12 | .top, .sale => ss13 | .top, .who => ss14 | .top, .next => ss15 | .log, .folk => ss20 | .log, .top => ss21 | .log, .log => ss22 | .log, .sale => ss23 | .log, .who => ss24 | .log, .next => ss25 | .sale, .folk => ss30 | .sale, .top => ss31 | .sale, .log => ss32 | .sale, .sale => ss33 | .sale, .who => ss34 | .sale, .next => ss35 | .who, .folk => ss40 | .who, .top => ss41 | .who, .log => ss42 | .who, .sale => ss43 | .who, .who => ss44 | .who, .next => ss45 | .next, .folk => ss50 | .next, .top => ss51 | .next, .log => ss52 | .next, .sale => ss53 | .next, .who => ss54 | .next, .next => ss55), xp, PySem.W.mg_of X G pa, fun k => match k with | .folk => PySem.W.exm_ref ps pd pt pp0 | .top => PySem.W.exm_ref ps pd pt pp1 | .log => PySem.W.exm_ref ps pd pt pp2 | .sale => PySem.W.exm_ref ps pd pt pp3 | .who => PySem.W.exm_ref ps pd pt pp4 | .next => PySem.W.exm_ref ps pd pt pp5⟩
  have all3 : ∀ {Q : Addr × Addr → Prop}, Q (cc0, P0) → Q (cc1, P1) → Q (cc2, P2) → ∀ p ∈ [(cc0, P0), (cc1, P1), (cc2, P2)], Q p := fun {Q} h0 h1 h2 p hp => by
    have hp : p = (cc0, P0) ∨ p = (cc1, P1) ∨ p = (cc2, P2) := by simpa using hp
    rcases hp with rfl | rfl | rfl <;> assumption
  refine ⟨PySem.W.fnOf "law" "law" (defArgs s_law) (defBody s_law) (defScope s_law) .none gV2 gdc2 gp2 gn2 (.ref cc2) gt2, [(cc0, P0), (cc1, P1), (cc2, P2)], spLaw ⟨K, Tt⟩, all3 ti0.2 ti1.2 ti2.2, all3 gz0 gz1 gz2, all3 ti0.1 ti1.1 ti2.1, fun s v => .of_eq rfl, fun H a ns hl _ hT hS => ⟨a, ns, rfl, hS, hl, fun p hp => ?_, fun _ => rfl⟩, fun base _ _ TB => ?_⟩
  · have hp : p = (P0, q__law_doors ++ "<lambda>") ∨ p = (P1, q__law_later ++ "<lambda>") ∨ p = (P2, q_law ++ "<lambda>") := by simpa [Tt] using hp
    rcases hp with rfl | rfl | rfl
    · exact LamX.TabS.nil (hT (cc0, P0) (by simp))
    · exact LamX.TabS.nil (hT (cc1, P1) (by simp))
    · exact LamX.TabS.nil (hT (cc2, P2) (by simp))
  · exact law_fn (T := ⟨l.prog, w, ⟨K, Tt⟩, mg, base⟩) (er := er) (bl base) (eo base) (ei base) ⟨_, PySem.W.mg_of X G v0⟩ ⟨_, PySem.W.mg_of X G v1⟩ ⟨_, PySem.W.mg_of X G v2⟩ (fun_mk (st := s_is_whole) l0 c0 k0) (PySem.W.mg_of X G a0) (fun_mk (st := s_is_within) l1 c1 k1) (PySem.W.mg_of X G a1) (fun_mk (st := s_are_some) l2 c2 k2) (PySem.W.mg_of X G a2) (fun_mk (st := s_is_sale) l3 c3 k3) (PySem.W.mg_of X G a3) (fun_mk (st := s_look_at_market) l4 c4 k4) (PySem.W.mg_of X G a4) (fun_mk (st := s_is_log_of) l5 c5 k5) (PySem.W.mg_of X G a5) (fun_mk (st := s_is_log) l6 c6 k6) (PySem.W.mg_of X G a6) (fun_mk (st := s_look_at) l7 c7 k7) (PySem.W.mg_of X G a7) (fun_mk (st := s_look_at_sale) l8 c8 k8) (PySem.W.mg_of X G a8) (fun_mk (st := s_fits) l9 c9 k9) (PySem.W.mg_of X G a9) (fun_mk (st := s_can_be) l10 c10 k10) (PySem.W.mg_of X G a10) (fun_mk (st := s_bar) l11 c11 k11) (PySem.W.mg_of X G a11) (fun_mk (st := s_is_bar) l12 c12 k12) (PySem.W.mg_of X G a12) (fun_mk (st := s_how_many) l13 c13 k13) (PySem.W.mg_of X G a13) (fun_mk (st := s_worths) l14 c14 k14) (PySem.W.mg_of X G a14) (fun_mk (st := s_setters) l15 c15 k15) (PySem.W.mg_of X G a15) (fun_mk (st := s_ways_set) l16 c16 k16) (PySem.W.mg_of X G a16) (fun_mk (st := s_gains) l17 c17 k17) (PySem.W.mg_of X G a17) (fun_mk (st := s_fewest_setters) l18 c18 k18) (PySem.W.mg_of X G a18) (fun_mk (st := s_next_buyers) l19 c19 k19) (PySem.W.mg_of X G a19) (fun_mk (st := s_false_ones) l20 c20 k20) (PySem.W.mg_of X G a20) (fun_mk (st := s__law_well) l21 c21 k21) (PySem.W.mg_of X G a21) (fun_mk (st := s__law_take) l22 c22 k22) (PySem.W.mg_of X G a22) (fun_mk (st := s__law_bags) l23 c23 k23) (PySem.W.mg_of X G a23) (fun_mk (st := s__law_same) l24 c24 k24) (PySem.W.mg_of X G a24) (fun_mk (st := s__law_in) l25 c25 k25) (PySem.W.mg_of X G a25) (fun_mk (st := s__law_kind) l26 c26 k26) (PySem.W.mg_of X G a26) (fun_mk (st := s__law_tried) l27 c27 k27) (PySem.W.mg_of X G a27) (fun_mk (st := s__law_some) l28 c28 k28) (PySem.W.mg_of X G a28) (fun_mk (st := s__law_market) l29 c29 k29) (PySem.W.mg_of X G a29) (fun_mk (st := s__law_good) l30 c30 k30) (PySem.W.mg_of X G a30) (fun_mk (st := s__law_odd) l31 c31 k31) (PySem.W.mg_of X G a31) (fun_mk (st := s__law_refused) l32 c32 k32) (PySem.W.mg_of X G a32) (funL_mk (st := s__law_doors) gb0 gh0 gk0) (PySem.W.mg_of X G ga0) (TB (cc0, P0) (by simp)) (funL_mk (st := s__law_later) gb1 gh1 gk1) (PySem.W.mg_of X G ga1) (TB (cc1, P1) (by simp)) (funL_mk (st := s_law) gb2 gh2 gk2) (PySem.W.mg_of X G ga2) (TB (cc2, P2) (by simp)) rfl n12 n13 n23
end PD
open PySem PySem.W PyProof.Rows
set_option maxHeartbeats 0 in
theorem PySem.Challenge.cw_paidsecond_k01_what_are_logs_and_who_is_holds : PySem.Challenge.rw_paidsecond_k01_what_are_logs_and_who_is.Holds := by
  w_on; o_law; k_head; (case hw => w_witness2)
  k_fill
  refine PD.walk_of3 (l := PySem.Challenge.rw_paidsecond_k01_what_are_logs_and_who_is) (n := 63) (k := 12) (x := "script") (names := ["_law_doors", "_law_later_refused", "law"]) (CX := fun _ => L2.CX0) rfl (by decide) rfl ⟨rfl, by decide, by decide⟩ ?R (fun w h Y => PySem.W.km_in_of Y) ?F (fun _ _ _ _ _ h => h)
  case R =>
    intro y hy
    simp only [List.mem_cons, List.not_mem_nil, or_false] at hy
    rcases hy with rfl | rfl | rfl <;> decide +kernel
  case F =>
    intro w mg fa h KX G hmg tabs
    refine' PD.all_mk KX G hmg tabs ?a0 ?l0 ?c0 ?k0 ?a1 ?l1 ?c1 ?k1 ?a2 ?l2 ?c2 ?k2 ?a3 ?l3 ?c3 ?k3 ?a4 ?l4 ?c4 ?k4 ?a5 ?l5 ?c5 ?k5 ?a6 ?l6 ?c6 ?k6 ?a7 ?l7 ?c7 ?k7 ?a8 ?l8 ?c8 ?k8 ?a9 ?l9 ?c9 ?k9 ?a10 ?l10 ?c10 ?k10 ?a11 ?l11 ?c11 ?k11 ?a12 ?l12 ?c12 ?k12 ?a13 ?l13 ?c13 ?k13 ?a14 ?l14 ?c14 ?k14 ?a15 ?l15 ?c15 ?k15 ?a16 ?l16 ?c16 ?k16 ?a17 ?l17 ?c17 ?k17 ?a18 ?l18 ?c18 ?k18 ?a19 ?l19 ?c19 ?k19 ?a20 ?l20 ?c20 ?k20 ?a21 ?l21 ?c21 ?k21 ?a22 ?l22 ?c22 ?k22 ?a23 ?l23 ?c23 ?k23 ?a24 ?l24 ?c24 ?k24 ?a25 ?l25 ?c25 ?k25 ?a26 ?l26 ?c26 ?k26 ?a27 ?l27 ?c27 ?k27 ?a28 ?l28 ?c28 ?k28 ?a29 ?l29 ?c29 ?k29 ?a30 ?l30 ?c30 ?k30 ?a31 ?l31 ?c31 ?k31 ?a32 ?l32 ?c32 ?k32 ?ga0 ?gb0 ?gh0 ?gk0 ?gr0 ?gs0 ?gz0 ?ga1 ?gb1 ?gh1 ?gk1 ?gr1 ?gs1 ?gz1 ?ga2 ?gb2 ?gh2 ?gk2 ?gr2 ?gs2 ?gz2 ?n12 ?n13 ?n23 ?ea0 ?ek0 ?ex0 ?es0 ?et0 ?eg0 ?eh0 ?ed0 ?ec0 ?em0 ?ea1 ?ek1 ?ex1 ?es1 ?et1 ?eg1 ?eh1 ?ed1 ?ec1 ?em1 ?ea2 ?ek2 ?ex2 ?es2 ?et2 ?eg2 ?eh2 ?ed2 ?ec2 ?em2 ?ea3 ?ek3 ?ex3 ?es3 ?et3 ?eg3 ?eh3 ?ed3 ?ec3 ?em3 ?ea4 ?ek4 ?ex4 ?es4 ?et4 ?eg4 ?eh4 ?ed4 ?ec4 ?em4 ?ea5 ?ek5 ?ex5 ?es5 ?et5 ?eg5 ?eh5 ?ed5 ?ec5 ?em5 ?pa ?ps ?pd ?pt ?q1 ?q2 ?pp0 ?ss00 ?ss01 ?ss02 ?ss03 ?ss04 ?ss05 ?pp1 ?ss10 ?ss11 ?ss12 ?ss13 ?ss14 ?ss15 ?pp2 ?ss20 ?ss21 ?ss22 ?ss23 ?ss24 ?ss25 ?pp3 ?ss30 ?ss31 ?ss32 ?ss33 ?ss34 ?ss35 ?pp4 ?ss40 ?ss41 ?ss42 ?ss43 ?ss44 ?ss45 ?pp5 ?ss50 ?ss51 ?ss52 ?ss53 ?ss54 ?ss55 ?v0 ?v1 ?v2 ?z0 ?z1 ?z2 ?z3 ?z4 ?z5 ?z6 ?z7 ?z8 ?z9 ?z10 ?z11 ?z12 ?z13 ?z14 ?z15
    (case a0 => k_is)
    (case l0 => k_is)
    (case c0 => k_is)
    (case k0 => k_is)
    (case a1 => k_is)
    (case l1 => k_is)
    (case c1 => k_is)
    (case k1 => k_is)
    (case a2 => k_is)
    (case l2 => k_is)
    (case c2 => k_is)
    (case k2 => k_is)
    (case a3 => k_is)
    (case l3 => k_is)
    (case c3 => k_is)
    (case k3 => k_is)
    (case a4 => k_is)
    (case l4 => k_is)
    (case c4 => k_is)
    (case k4 => k_is)
    (case a5 => k_is)
    (case l5 => k_is)
    (case c5 => k_is)
    (case k5 => k_is)
    (case a6 => k_is)
    (case l6 => k_is)
    (case c6 => k_is)
    (case k6 => k_is)
    (case a7 => k_is)
    (case l7 => k_is)
    (case c7 => k_is)
    (case k7 => k_is)
    (case a8 => k_is)
    (case l8 => k_is)
    (case c8 => k_is)
    (case k8 => k_is)
    (case a9 => k_is)
    (case l9 => k_is)
    (case c9 => k_is)
    (case k9 => k_is)
    (case a10 => k_is)
    (case l10 => k_is)
    (case c10 => k_is)
    (case k10 => k_is)
    (case a11 => k_is)
    (case l11 => k_is)
    (case c11 => k_is)
    (case k11 => k_is)
    (case a12 => k_is)
    (case l12 => k_is)
    (case c12 => k_is)
    (case k12 => k_is)
    (case a13 => k_is)
    (case l13 => k_is)
    (case c13 => k_is)
    (case k13 => k_is)
    (case a14 => k_is)
    (case l14 => k_is)
    (case c14 => k_is)
    (case k14 => k_is)
    (case a15 => k_is)
    (case l15 => k_is)
    (case c15 => k_is)
    (case k15 => k_is)
    (case a16 => k_is)
    (case l16 => k_is)
    (case c16 => k_is)
    (case k16 => k_is)
    (case a17 => k_is)
    (case l17 => k_is)
    (case c17 => k_is)
    (case k17 => k_is)
    (case a18 => k_is)
    (case l18 => k_is)
    (case c18 => k_is)
    (case k18 => k_is)
    (case a19 => k_is)
    (case l19 => k_is)
    (case c19 => k_is)
    (case k19 => k_is)
    (case a20 => k_is)
    (case l20 => k_is)
    (case c20 => k_is)
    (case k20 => k_is)
    (case a21 => k_is)
    (case l21 => k_is)
    (case c21 => k_is)
    (case k21 => k_is)
    (case a22 => k_is)
    (case l22 => k_is)
    (case c22 => k_is)
    (case k22 => k_is)
    (case a23 => k_is)
    (case l23 => k_is)
    (case c23 => k_is)
    (case k23 => k_is)
    (case a24 => k_is)
    (case l24 => k_is)
    (case c24 => k_is)
    (case k24 => k_is)
    (case a25 => k_is)
    (case l25 => k_is)
    (case c25 => k_is)
    (case k25 => k_is)
    (case a26 => k_is)
    (case l26 => k_is)
    (case c26 => k_is)
    (case k26 => k_is)
    (case a27 => k_is)
    (case l27 => k_is)
    (case c27 => k_is)
    (case k27 => k_is)
    (case a28 => k_is)
    (case l28 => k_is)
    (case c28 => k_is)
    (case k28 => k_is)
    (case a29 => k_is)
    (case l29 => k_is)
    (case c29 => k_is)
    (case k29 => k_is)
    (case a30 => k_is)
    (case l30 => k_is)
    (case c30 => k_is)
    (case k30 => k_is)
    (case a31 => k_is)
    (case l31 => k_is)
    (case c31 => k_is)
    (case k31 => k_is)
    (case a32 => k_is)
    (case l32 => k_is)
    (case c32 => k_is)
    (case k32 => k_is)
    (case ga0 => k_is)
    (case gb0 => k_is)
    (case gh0 => k_is)
    (case gk0 => k_is)
    (case gr0 => k_is)
    (case gs0 => rfl)
    (case gz0 => first | kernel_rfl | rfl)
    (case ga1 => k_is)
    (case gb1 => k_is)
    (case gh1 => k_is)
    (case gk1 => k_is)
    (case gr1 => k_is)
    (case gs1 => rfl)
    (case gz1 => first | kernel_rfl | rfl)
    (case ga2 => k_is)
    (case gb2 => k_is)
    (case gh2 => k_is)
    (case gk2 => k_is)
    (case gr2 => k_is)
    (case gs2 => rfl)
    (case gz2 => first | kernel_rfl | rfl)
    (case n12 => decide)
    (case n13 => decide)
    (case n23 => decide)
    (case ea0 => k_is)
    (case ek0 => k_is)
    (case ex0 => first | k_exc | kernel_rfl)
    (case es0 => k_is)
    (case et0 => k_is)
    (case eg0 => k_is)
    (case eh0 => k_is)
    (case ed0 => k_is)
    (case ec0 => k_is)
    (case em0 => k_is)
    (case ea1 => k_is)
    (case ek1 => k_is)
    (case ex1 => first | k_exc | kernel_rfl)
    (case es1 => k_is)
    (case et1 => k_is)
    (case eg1 => k_is)
    (case eh1 => k_is)
    (case ed1 => k_is)
    (case ec1 => k_is)
    (case em1 => k_is)
    (case ea2 => k_is)
    (case ek2 => k_is)
    (case ex2 => first | k_exc | kernel_rfl)
    (case es2 => k_is)
    (case et2 => k_is)
    (case eg2 => k_is)
    (case eh2 => k_is)
    (case ed2 => k_is)
    (case ec2 => k_is)
    (case em2 => k_is)
    (case ea3 => k_is)
    (case ek3 => k_is)
    (case ex3 => first | k_exc | kernel_rfl)
    (case es3 => k_is)
    (case et3 => k_is)
    (case eg3 => k_is)
    (case eh3 => k_is)
    (case ed3 => k_is)
    (case ec3 => k_is)
    (case em3 => k_is)
    (case ea4 => k_is)
    (case ek4 => k_is)
    (case ex4 => first | k_exc | kernel_rfl)
    (case es4 => k_is)
    (case et4 => k_is)
    (case eg4 => k_is)
    (case eh4 => k_is)
    (case ed4 => k_is)
    (case ec4 => k_is)
    (case em4 => k_is)
    (case ea5 => k_is)
    (case ek5 => k_is)
    (case ex5 => first | k_exc | kernel_rfl)
    (case es5 => k_is)
    (case et5 => k_is)
    (case eg5 => k_is)
    (case eh5 => k_is)
    (case ed5 => k_is)
    (case ec5 => k_is)
    (case em5 => k_is)
    (case pa => k_is)
    (case ps => k_is)
    (case pd => k_is)
    (case pt => k_is)
    (case q1 => k_is)
    (case q2 => k_is)
    (case pp0 => k_is)
    (case ss00 => first | k_is | rfl)
    (case ss01 => first | k_is | rfl)
    (case ss02 => first | k_is | rfl)
    (case ss03 => first | k_is | rfl)
    (case ss04 => first | k_is | rfl)
    (case ss05 => first | k_is | rfl)
    (case pp1 => k_is)
    (case ss10 => first | k_is | rfl)
    (case ss11 => first | k_is | rfl)
    (case ss12 => first | k_is | rfl)
    (case ss13 => first | k_is | rfl)
    (case ss14 => first | k_is | rfl)
    (case ss15 => first | k_is | rfl)
    (case pp2 => k_is)
    (case ss20 => first | k_is | rfl)
    (case ss21 => first | k_is | rfl)
    (case ss22 => first | k_is | rfl)
    (case ss23 => first | k_is | rfl)
    (case ss24 => first | k_is | rfl)
    (case ss25 => first | k_is | rfl)
    (case pp3 => k_is)
    (case ss30 => first | k_is | rfl)
    (case ss31 => first | k_is | rfl)
    (case ss32 => first | k_is | rfl)
    (case ss33 => first | k_is | rfl)
    (case ss34 => first | k_is | rfl)
    (case ss35 => first | k_is | rfl)
    (case pp4 => k_is)
    (case ss40 => first | k_is | rfl)
    (case ss41 => first | k_is | rfl)
    (case ss42 => first | k_is | rfl)
    (case ss43 => first | k_is | rfl)
    (case ss44 => first | k_is | rfl)
    (case ss45 => first | k_is | rfl)
    (case pp5 => k_is)
    (case ss50 => first | k_is | rfl)
    (case ss51 => first | k_is | rfl)
    (case ss52 => first | k_is | rfl)
    (case ss53 => first | k_is | rfl)
    (case ss54 => first | k_is | rfl)
    (case ss55 => first | k_is | rfl)
    (case v0 => k_is)
    (case v1 => k_is)
    (case v2 => k_is)
    (case z0 => k_is)
    (case z1 => k_is)
    (case z2 => k_is)
    (case z3 => k_is)
    (case z4 => k_is)
    (case z5 => k_is)
    (case z6 => k_is)
    (case z7 => k_is)
    (case z8 => k_is)
    (case z9 => k_is)
    (case z10 => k_is)
    (case z11 => k_is)
    (case z12 => k_is)
    (case z13 => k_is)
    (case z14 => k_is)
    (case z15 => k_is)
