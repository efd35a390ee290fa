import PyProof.Rows.All
import Wide.All
import OpenK.AllK
import Wide.FinOn
import PySem.Challenge.RW_bellstack_k03_methods_and_their_courses
import HandS.ForMost
import HandS.Evl
import HandS.Exc
import HandS.ExcOwn
import HandS.TryOnly
import HandS.WordsExc
import HandS.Lambda
import HandS.AnyAll
import HandS.Conv
import HandS.TupAny
import HandS.Style
import HandS.Deep
import KE.KEqDeep
import HandS.SortInts
import PyProof.TupleOfSeq
import HandS.Zip
import HandS.SetFor
import HandS.Replace
import PyProof.TupleOfGen
import PyProof.ConsumeS
import PyProof.SeqIndex
import PyProof.WalksMore
import PyProof.StrWalks
import HandS.Iter
import HandS.Nested
import KE.GoesZip
import KE.GoesMore
import PyProof.GenCompT
import KE.LtData
import KE.SortCalls
import HandS.ReplaceLit
import PyProof.Rows.StrMul
import KE.KDictCopyH
import KE.KDictSum
import HandS.TupLen
import HandS.DictComp
import HandS.ReplaceList
import HandS.Text
import PyProof.AutoSeq1
import HandS.WordsDict
import KE.KStateDown
import KE.KNestM
import HandS.EndTab
import HandS.EndBits
import HandS.Head0
import HandS.Head1
import HandS.Head2
import HandS.HeadEnd
import HandS.HeadWalk
import HandS.HeadHook1
import HandS.HeadHook2
import HandS.HeadHook3
import HandS.HeadHook4
import HandS.HeadNt
import HandS.Defaults
set_option Elab.async false
set_option linter.all false
set_option maxRecDepth 100000
set_option maxHeartbeats 8000000
/-! the data layer: values as data, local lists as resources -/
namespace DL
open PySem PySem.Spec PyProof.Rows L2

/-! ### lambdas -/
structure LInfo where
  q : Str
  params : Arguments
  body : Expr
  scope : Scope
  cl : List (Str × Addr)
/-- the object at f is such a lambda, its code object at c -/
def LO (f c : Addr) (I : LInfo) : HO := .ext fun h => ∃ pm ctv : Value, h.get? f = some (PySem.W.kla_obj "<lambda>" I.q I.params I.body I.scope I.cl pm c ctv)
theorem lo_ne {f c : Addr} {I : LInfo} (ps : Array Value) : LO f c I ≠ .tbl ps := fun z => by
  unfold LO at z
  cases z
/-! ### dicts of rows -/
def rowHash (k : List Int) : Int := reduceHash (Builtin.Tuple.tupleHashOf (k.map hashInt))
/-- the row, its object, the value -/
abbrev REnt := List Int × Addr × Value
def rKeys (xs : List REnt) : List (List Int) := xs.map Prod.fst
def rVals (xs : List REnt) : List Value := xs.map fun x => x.2.2
def rowEntry (x : REnt) : DictEntry := ⟨rowHash x.1, .ref x.2.1, x.2.2⟩
def DAt (a : Addr) (xs : List REnt) (h : Heap) : Prop := (a == sysModules) = false ∧ xs.length ≤ sizeLine ∧ (∃ o es ep, h.get? a = some o ∧ o.ExactDict ∧ o.data = .dict es ep ∧ es.toList = xs.map rowEntry) ∧ (rKeys xs).Nodup
def DictAt (a : Addr) (xs : List REnt) : HO := .ext (DAt a xs)
/-! ### data -/
inductive D where
  | non | bl (b : Bool) | int (i : Int) | str (x : Str)
  | tup (xs : List D) | lst (xs : List D)
  /-- a tuple whose object is known to have no dict -/
  | tux (xs : List D)
  | lam (I : LInfo)
  /-- a list that is only read (the script) -/
  | lsq (xs : List D)
  | ins (C : Addr) (ns : List Str) (ds : List D)
  | dk (ks : List Key) (ds : List D) | dt (ks : List (List Key)) (ds : List D)
  /-- a dict whose keys are rows -/
  | dr (ks : List (List Int)) (ds : List D)
  | ref (a : Addr)

mutual
inductive DR (K : PySem.W.Frag) (H : Hp) : V → D → Prop
  | non : DR K H .non .non
  | bl (b : Bool) : DR K H (.bl b) (.bl b)
  | int (i : Int) : DR K H (.int i) (.int i)
  | str (x : Str) : DR K H (.str x) (.str x)
  | tup {a : Addr} {xs : List V} {ds : List D} : SqT K H a xs → DRs K H xs ds → DR K H (.ref a) (.tup ds)
  | lst {a : Addr} {xs : List V} {ds : List D} : H a = some (.lst xs) → DRs K H xs ds → DR K H (.ref a) (.lst ds)
  | ins {a C dx : Addr} {fs : List (Str × V)} {ns : List Str} {ds : List D} : H a = some (.ins C dx fs) → fs.map Prod.fst = ns → DRs K H (fs.map Prod.snd) ds → DR K H (.ref a) (.ins C ns ds)
  | dk {a : Addr} {kvs : List (Key × V)} {ks : List Key} {ds : List D} : H a = some (.dK kvs) → kvs.map Prod.fst = ks → DRs K H (kvs.map Prod.snd) ds → DR K H (.ref a) (.dk ks ds)
  | dt {a : Addr} {kvs : List (List Key × V)} {ks : List (List Key)} {ds : List D} : H a = some (.dT kvs) → kvs.map Prod.fst = ks → DRs K H (kvs.map Prod.snd) ds → DR K H (.ref a) (.dt ks ds)
  | dr {a : Addr} {xs : List REnt} {vs : List V} {ks : List (List Int)} {ds : List D} : H a = some (DictAt a xs) → rKeys xs = ks → (∀ x ∈ xs, SqT K H x.2.1 (x.1.map V.int)) → Vals vs (rVals xs) → DRs K H vs ds → DR K H (.ref a) (.dr ks ds)
  | tux {a : Addr} {o : Obj} {xs : List V} {ds : List D} : H a = some (.frz o (.tup xs)) → o.dict = none → DRs K H xs ds → DR K H (.ref a) (.tux ds)
  | lam {f c : Addr} {I : LInfo} : H f = some (LO f c I) → H c = some (LamX.CodeO c I.q) → DR K H (.ref f) (.lam I)
  | lsq {a : Addr} {xs : List V} {ds : List D} : SqL K H a xs → DRs K H xs ds → DR K H (.ref a) (.lsq ds)
  | ref (a : Addr) : DR K H (.ref a) (.ref a)
inductive DRs (K : PySem.W.Frag) (H : Hp) : List V → List D → Prop
  | nil : DRs K H [] []
  | cons {v : V} {vs : List V} {d : D} {ds : List D} : DR K H v d → DRs K H vs ds → DRs K H (v :: vs) (d :: ds)
end

/-! ### tables of code objects; what grows -/
structure Tb where
  gs : List Addr
  ls : List (Addr × Str)
  dj : ∀ P ∈ gs, ∀ p ∈ ls, p.1 ≠ P

structure Ext (T : Tb) (H H' : Hp) : Prop where
  keep : ∀ a o, H a = some o → (∀ ps, o ≠ .tbl ps) → H' a = some o
  tk : ∀ a ps, H a = some (.tbl ps) → ∃ qs, H' a = some (.tbl qs)
  tg : ∀ P ∈ T.gs, GxR.TabG H P → GxR.TabG H' P
  ts : LamX.Tabs T.ls H → LamX.Tabs T.ls H'

section
variable {T : Tb} {K : PySem.W.Frag} {H H1 H2 H' : Hp}
theorem Ext.refl (H : Hp) : Ext T H H := ⟨fun _ _ h _ => h, fun _ ps h => ⟨ps, h⟩, fun _ _ h => h, fun h => h⟩
theorem Ext.trans (a : Ext T H H1) (b : Ext T H1 H2) : Ext T H H2 :=
  ⟨fun c o h n => b.keep c o (a.keep c o h n) n, fun c ps h => (a.tk c ps h).elim fun q e => b.tk c q e, fun P hP h => b.tg P hP (a.tg P hP h), fun h => b.ts (a.ts h)⟩
theorem Ext.of (e : ∀ b o, H b = some o → H' b = some o) : Ext T H H' :=
  ⟨fun b o h _ => e b o h, fun a ps h => ⟨ps, e _ _ h⟩, fun _ _ ⟨ps, h, z⟩ => ⟨ps, e _ _ h, z⟩, fun h => LamX.Tabs.ext h e⟩
theorem Ext.new {p : Addr} {o : HO} (h : H p = none) : Ext T H (upd H p o) := Ext.of fun a u e => by
  rw [upd_ne (ne_of_none e h)]
  exact e
theorem Ext.rd {a : Addr} {u : HO} (e : Ext T H H') (h : Rd H a u) (n : ∀ ps, u ≠ .tbl ps) : Rd H' a u := by
  rcases h with h | ⟨o, h⟩
  · exact Or.inl (e.keep a _ h n)
  · exact Or.inr ⟨o, e.keep a _ h (fun _ z => nomatch z)⟩
theorem Ext.sl {a : Addr} {xs : List V} (e : Ext T H H') (h : SqL K H a xs) : SqL K H' a xs := by
  rcases h with h | h
  · exact Or.inl (e.rd h (fun _ z => nomatch z))
  · exact Or.inr h
theorem Ext.st {a : Addr} {xs : List V} (e : Ext T H H') (h : SqT K H a xs) : SqT K H' a xs := by
  rcases h with h | h
  · exact Or.inl (e.rd h (fun _ z => nomatch z))
  · exact Or.inr h
theorem Ext.any {p : Addr} {o : HO} (e : Ext T H H') (hp : H p = some o) : ∃ u, H' p = some u := by
  cases o with
  | tbl ps => exact (e.tk p ps hp).elim fun q z => ⟨_, z⟩
  | _ => exact ⟨_, e.keep p _ hp fun _ z => nomatch z⟩
theorem Ext.back {p : Addr} (e : Ext T H H') (h : H' p = none) : H p = none := by
  cases q : H p with
  | none => rfl
  | some o =>
    obtain ⟨u, z⟩ := e.any q
    rw [h] at z
    cases z
theorem Ext.tab {P : Addr} (hP : P ∈ T.gs) (h : GxR.Tabbed P H H') (g : GxR.TabG H P) : Ext T H H' := by
  obtain ⟨ps, hps, _⟩ := g
  refine ⟨fun a o e n => ?_, fun a qs e => ?_, fun P' hP' t => ?_, fun t p hp => ?_⟩
  rotate_left
  · by_cases z : a = P
    · obtain ⟨qs, q1, _⟩ := h.1
      exact ⟨qs, by rw [z]; exact q1⟩
    · exact ⟨qs, by rw [h.2 a z]; exact e⟩
  rotate_right
  · have na : a ≠ P := fun z => n ps (by rw [z, hps] at e; exact (Option.some.inj e).symm)
    rw [h.2 a na]
    exact e
  · by_cases z : P' = P
    · rw [z]
      exact h.1
    · obtain ⟨ps', h1, h2⟩ := t
      exact ⟨ps', by rw [h.2 P' z]; exact h1, h2⟩
  · obtain ⟨ps', h1, h2, h3⟩ := t p hp
    refine ⟨ps', by rw [h.2 p.1 (T.dj P hP p hp)]; exact h1, h2, fun pos cv hc => ?_⟩
    obtain ⟨c, e1, e2⟩ := h3 pos cv hc
    refine ⟨c, e1, ?_⟩
    have nc : c ≠ P := fun z => by
      rw [z, hps] at e2
      exact LamX.codeO_ne _ (Option.some.inj e2).symm
    rw [h.2 c nc]
    exact e2

mutual
theorem DR.mono (e : Ext T H H') : ∀ (d : D) {v : V}, DR K H v d → DR K H' v d
  | .non, _, h => by cases h; exact .non
  | .bl b, _, h => by cases h; exact .bl b
  | .int i, _, h => by cases h; exact .int i
  | .str x, _, h => by cases h; exact .str x
  | .tup ds, _, h => by cases h with | tup h1 h2 => exact .tup (e.st h1) (DRs.mono e ds h2)
  | .lst ds, _, h => by cases h with | lst h1 h2 => exact .lst (e.keep _ _ h1 (fun _ z => nomatch z)) (DRs.mono e ds h2)
  | .ins C ns ds, _, h => by cases h with | ins h1 h2 h3 => exact .ins (e.keep _ _ h1 (fun _ z => nomatch z)) h2 (DRs.mono e ds h3)
  | .dk ks ds, _, h => by cases h with | dk h1 h2 h3 => exact .dk (e.keep _ _ h1 (fun _ z => nomatch z)) h2 (DRs.mono e ds h3)
  | .dr ks ds, _, h => by cases h with | dr h1 h2 h3 h4 h5 => exact .dr (e.keep _ _ h1 (fun _ z => nomatch z)) h2 (fun x hx => e.st (h3 x hx)) h4 (DRs.mono e ds h5)
  | .dt ks ds, _, h => by cases h with | dt h1 h2 h3 => exact .dt (e.keep _ _ h1 (fun _ z => nomatch z)) h2 (DRs.mono e ds h3)
  | .tux ds, _, h => by cases h with | tux h1 h2 h3 => exact .tux (e.keep _ _ h1 (fun _ z => nomatch z)) h2 (DRs.mono e ds h3)
  | .lam I, _, h => by cases h with | lam h1 h2 => exact .lam (e.keep _ _ h1 lo_ne) (e.keep _ _ h2 LamX.codeO_ne)
  | .lsq ds, _, h => by cases h with | lsq h1 h2 => exact .lsq (e.sl h1) (DRs.mono e ds h2)
  | .ref a, _, h => by cases h; exact .ref a
theorem DRs.mono (e : Ext T H H') : ∀ (ds : List D) {vs : List V}, DRs K H vs ds → DRs K H' vs ds
  | [], _, h => by cases h; exact .nil
  | d :: ds, _, h => by cases h with | cons h1 h2 => exact .cons (DR.mono e d h1) (DRs.mono e ds h2)
end
end
theorem DR.weakT {K : PySem.W.Frag} {H : Hp} {v : V} {ds : List D} (h : DR K H v (.tux ds)) : DR K H v (.tup ds) := by
  cases h with
  | tux h1 h2 h3 => exact .tup (Or.inl (Or.inr ⟨_, h1⟩)) h3
theorem DRs.length {K : PySem.W.Frag} {H : Hp} : ∀ {vs : List V} {ds : List D}, DRs K H vs ds → vs.length = ds.length
  | _, _, .nil => rfl
  | _, _, .cons _ t => congrArg (· + 1) (DRs.length t)
theorem DRs.get {K : PySem.W.Frag} {H : Hp} : ∀ {vs : List V} {ds : List D} {i : Nat} {d : D}, DRs K H vs ds → ds[i]? = some d → ∃ v, vs[i]? = some v ∧ DR K H v d
  | _, _, _, _, .nil, e => by simp at e
  | _, _, 0, d, .cons r _, e => by simp at e; subst e; exact ⟨_, rfl, r⟩
  | _, _, i + 1, d, .cons _ t, e => by
    obtain ⟨v, h1, h2⟩ := DRs.get (i := i) (d := d) t (by simpa using e)
    exact ⟨v, by simpa using h1, h2⟩
theorem DRs.get' {K : PySem.W.Frag} {H : Hp} : ∀ {vs : List V} {ds : List D} {i : Nat} {v : V}, DRs K H vs ds → vs[i]? = some v → ∃ d, ds[i]? = some d ∧ DR K H v d
  | _, _, _, _, .nil, e => by simp at e
  | _, _, 0, v, .cons r _, e => by simp at e; subst e; exact ⟨_, rfl, r⟩
  | _, _, i + 1, v, .cons _ t, e => by
    obtain ⟨d, h1, h2⟩ := DRs.get' (i := i) (v := v) t (by simpa using e)
    exact ⟨d, by simpa using h1, h2⟩
theorem DRs.append {K : PySem.W.Frag} {H : Hp} : ∀ {vs ws : List V} {ds es : List D}, DRs K H vs ds → DRs K H ws es → DRs K H (vs ++ ws) (ds ++ es)
  | _, _, _, _, .nil, s => s
  | _, _, _, _, .cons r t, s => .cons r (DRs.append t s)
theorem DRs.set {K : PySem.W.Frag} {H : Hp} {v : V} {d : D} (r : DR K H v d) : ∀ {vs : List V} {ds : List D} (i : Nat), DRs K H vs ds → DRs K H (vs.set i v) (ds.set i d)
  | _, _, _, .nil => .nil
  | _, _, 0, .cons _ t => .cons r t
  | _, _, i + 1, .cons q t => .cons q (DRs.set r i t)
theorem DRs.take {K : PySem.W.Frag} {H : Hp} : ∀ {vs : List V} {ds : List D} (n : Nat), DRs K H vs ds → DRs K H (vs.take n) (ds.take n)
  | _, _, 0, _ => .nil
  | _, _, _ + 1, .nil => .nil
  | _, _, n + 1, .cons r t => .cons r (DRs.take n t)
theorem DRs.drop {K : PySem.W.Frag} {H : Hp} : ∀ {vs : List V} {ds : List D} (n : Nat), DRs K H vs ds → DRs K H (vs.drop n) (ds.drop n)
  | _, _, 0, r => r
  | _, _, _ + 1, .nil => .nil
  | _, _, n + 1, .cons _ t => DRs.drop n t
theorem DRs.eraseIdx {K : PySem.W.Frag} {H : Hp} : ∀ {vs : List V} {ds : List D} (n : Nat), DRs K H vs ds → DRs K H (vs.eraseIdx n) (ds.eraseIdx n)
  | _, _, _, .nil => .nil
  | _, _, 0, .cons _ t => t
  | _, _, n + 1, .cons r t => .cons r (DRs.eraseIdx n t)
theorem DRs.reverse {K : PySem.W.Frag} {H : Hp} : ∀ {vs : List V} {ds : List D}, DRs K H vs ds → DRs K H vs.reverse ds.reverse
  | _, _, .nil => .nil
  | _, _, .cons r t => by
    rw [List.reverse_cons, List.reverse_cons]
    exact (DRs.reverse t).append (.cons r .nil)
theorem DRs.ints {K : PySem.W.Frag} {H : Hp} : ∀ (ns : List Int), DRs K H (ns.map V.int) (ns.map D.int)
  | [] => .nil
  | n :: r => .cons (.int n) (DRs.ints r)
theorem DRs.ints_inv {K : PySem.W.Frag} {H : Hp} : ∀ {ns : List Int} {vs : List V}, DRs K H vs (ns.map D.int) → vs = ns.map V.int
  | [], _, h => by cases h; rfl
  | n :: r, _, h => by
    cases h with
    | cons h1 h2 =>
      cases h1
      rw [DRs.ints_inv h2]
      rfl
theorem DRs.strs_inv {K : PySem.W.Frag} {H : Hp} : ∀ {xs : List Str} {vs : List V}, DRs K H vs (xs.map D.str) → vs = xs.map V.str
  | [], _, h => by cases h; rfl
  | n :: r, _, h => by
    cases h with
    | cons h1 h2 =>
      cases h1
      rw [DRs.strs_inv h2]
      rfl
theorem DRs.strs {K : PySem.W.Frag} {H : Hp} : ∀ (ns : List Str), DRs K H (ns.map V.str) (ns.map D.str)
  | [] => .nil
  | n :: r => .cons (.str n) (DRs.strs r)

/-! ### resources -/
/-- no table, no code object -/
def NT : HO → Prop
  | .tbl _ => False
  | .ext φ => (∀ c q, HO.ext φ ≠ LamX.CodeO c q) ∧ ∀ f c I, HO.ext φ ≠ LO f c I
  | _ => True
theorem NT.tb {o : HO} (n : NT o) : ∀ ps, o ≠ .tbl ps := fun ps z => by subst z; exact n
theorem NT.co {o : HO} (n : NT o) (c : Addr) (q : Str) : o ≠ LamX.CodeO c q := fun z => by
  subst z
  exact n.1 c q rfl
theorem NT.lo {o : HO} (n : NT o) (f c : Addr) (I : LInfo) : o ≠ LO f c I := fun z => by
  subst z
  exact n.2 f c I rfl
structure Res where
  fp : List Addr
  ok : PySem.W.Frag → Hp → Hp → Prop
  st : ∀ (T : Tb) (K : PySem.W.Frag) (Hs Hs' H H' : Hp), Ext T Hs Hs' → (∀ p ∈ fp, H' p = H p) → ok K Hs H → ok K Hs' H'
/-- a list of one's own at p -/
def rl (p : Addr) (ds : List D) : Res where
  fp := [p]
  ok := fun K Hs H => ∃ xs, H p = some (.lst xs) ∧ DRs K Hs xs ds
  st := fun T K Hs Hs' H H' e k ⟨xs, h1, h2⟩ => ⟨xs, by rw [k p (by simp)]; exact h1, DRs.mono e ds h2⟩
/-- a dict of one's own at p -/
def rk (p : Addr) (ks : List Key) (ds : List D) : Res where
  fp := [p]
  ok := fun K Hs H => ∃ kvs : List (Key × V), H p = some (.dK kvs) ∧ kvs.map Prod.fst = ks ∧ DRs K Hs (kvs.map Prod.snd) ds
  st := fun T K Hs Hs' H H' e k ⟨xs, h1, h2, h3⟩ => ⟨xs, by rw [k p (by simp)]; exact h1, h2, DRs.mono e ds h3⟩
def rt (p : Addr) (ks : List (List Key)) (ds : List D) : Res where
  fp := [p]
  ok := fun K Hs H => ∃ kvs : List (List Key × V), H p = some (.dT kvs) ∧ kvs.map Prod.fst = ks ∧ DRs K Hs (kvs.map Prod.snd) ds
  st := fun T K Hs Hs' H H' e k ⟨xs, h1, h2, h3⟩ => ⟨xs, by rw [k p (by simp)]; exact h1, h2, DRs.mono e ds h3⟩
/-- a dict of rows of one's own at p -/
def rr (p : Addr) (ks : List (List Int)) (ds : List D) : Res where
  fp := [p]
  ok := fun K Hs H => ∃ (xs : List REnt) (vs : List V), H p = some (DictAt p xs) ∧ rKeys xs = ks ∧ (∀ x ∈ xs, SqT K Hs x.2.1 (x.1.map V.int)) ∧ Vals vs (rVals xs) ∧ DRs K Hs vs ds
  st := fun T K Hs Hs' H H' e k ⟨xs, vs, h1, h2, h3, h4, h5⟩ => ⟨xs, vs, by rw [k p (by simp)]; exact h1, h2, fun x hx => e.st (h3 x hx), h4, DRs.mono e ds h5⟩

abbrev G := List (Option D)
abbrev Rs := List Res
def fps (r : Rs) : List Addr := r.flatMap Res.fp

/-- the tables stand -/
structure Wf (T : Tb) (H : Hp) : Prop where
  g : ∀ P ∈ T.gs, GxR.TabG H P
  l : LamX.Tabs T.ls H
theorem Wf.ext {T : Tb} {H H' : Hp} (w : Wf T H) (e : Ext T H H') : Wf T H' := ⟨fun P h => e.tg P h (w.g P h), e.ts w.l⟩

/-- the state: Hs the part that stands still, H all; g what the slots hold, r what is one's own -/
structure SR (T : Tb) (K : PySem.W.Frag) (Hs H : Hp) (σ : L2.St) (g : G) (r : Rs) : Prop where
  ex : Ext T Hs H
  wf : Wf T Hs
  len : σ.length = g.length
  sl : ∀ (i : Nat) d, g[i]? = some (some d) → ∃ v, σ[i]? = some (some v) ∧ DR K Hs v d
  rs : ∀ x ∈ r, x.ok K Hs H
  fr : ∀ p ∈ fps r, Hs p = none ∧ ∃ o, H p = some o ∧ NT o
  nd : (fps r).Nodup

section
variable {T : Tb} {K : PySem.W.Frag} {Hs H Hs' H' : Hp} {σ : L2.St} {g : G} {r : Rs}
theorem SR.wfH (s : SR T K Hs H σ g r) : Wf T H := s.wf.ext s.ex
/-- H grows, what stands still stays -/
theorem SR.grow (s : SR T K Hs H σ g r) (e : Ext T H H') : SR T K Hs H' σ g r :=
  ⟨s.ex.trans e, s.wf, s.len, s.sl, fun x hx => x.st T K Hs Hs H H' (Ext.refl _) (fun p hp => by
    obtain ⟨o, h1, h2⟩ := (s.fr p (List.mem_flatMap.mpr ⟨x, hx, hp⟩)).2
    rw [e.keep p o h1 h2.tb, h1]) (s.rs x hx), fun p hp => by
    obtain ⟨h0, o, h1, h2⟩ := s.fr p hp
    exact ⟨h0, o, e.keep p o h1 h2.tb, h2⟩, s.nd⟩
/-- a new object that stands still from now on -/
theorem SR.alloc (s : SR T K Hs H σ g r) {p : Addr} {o : HO} (h : H p = none) (n : NT o) : SR T K (upd Hs p o) (upd H p o) σ g r ∧ Ext T Hs (upd Hs p o) := by
  have hs0 : Hs p = none := s.ex.back h
  have e1 : Ext T Hs (upd Hs p o) := Ext.new hs0
  have np : ∀ q ∈ fps r, q ≠ p := fun q hq z => by
    obtain ⟨_, u, h1, _⟩ := s.fr q hq
    rw [z, h] at h1
    cases h1
  refine ⟨⟨?_, s.wf.ext e1, s.len, fun i d e => ?_, fun x hx => ?_, fun q hq => ?_, s.nd⟩, e1⟩
  · refine ⟨fun a u e n => ?_, fun a ps e => ?_, fun P hP t => ?_, fun t => ?_⟩
    · by_cases z : a = p
      · subst z
        rw [upd_same] at e ⊢
        exact e
      · rw [upd_ne z] at e ⊢
        exact s.ex.keep a u e n
    · by_cases z : a = p
      · subst z
        rw [upd_same] at e
        exact (n.tb ps (Option.some.inj e)).elim
      · rw [upd_ne z] at e ⊢
        exact s.ex.tk a ps e
    · exact (Ext.new (T := T) h).tg P hP (s.ex.tg P hP (s.wf.g P hP))
    · exact (Ext.new (T := T) h).ts (s.ex.ts s.wf.l)
  · obtain ⟨v, h1, h2⟩ := s.sl i d e
    exact ⟨v, h1, DR.mono e1 d h2⟩
  · exact x.st T K Hs _ H _ e1 (fun q hq => upd_ne (np q (List.mem_flatMap.mpr ⟨x, hx, hq⟩))) (s.rs x hx)
  · obtain ⟨h0, u, h1, h2⟩ := s.fr q hq
    exact ⟨by rw [upd_ne (np q hq)]; exact h0, u, by rw [upd_ne (np q hq)]; exact h1, h2⟩
/-- what is known of H stands still from now on -/
theorem SR.adopt (s : SR T K Hs H σ g r) {c : Addr} {o : HO} (h : H c = some o) (n : ∀ ps, o ≠ .tbl ps) (nf : c ∉ fps r) : SR T K (upd Hs c o) H σ g r ∧ Ext T Hs (upd Hs c o) := by
  have hs : ∀ u, Hs c = some u → u = o := fun u e => by
    by_cases z : ∃ ps, u = .tbl ps
    · obtain ⟨ps, rfl⟩ := z
      obtain ⟨qs, q⟩ := s.ex.tk c ps e
      rw [h] at q
      exact (n qs (Option.some.inj q)).elim
    · have q := s.ex.keep c u e fun ps e => z ⟨ps, e⟩
      rw [h] at q
      exact (Option.some.inj q).symm
  have e0 : ∀ b u, Hs b = some u → upd Hs c o b = some u := fun b u e => by
    by_cases z : b = c
    · subst z
      rw [hs u e, upd_same]
    · rw [upd_ne z]
      exact e
  have e1 : Ext T Hs (upd Hs c o) := Ext.of e0
  have back : ∀ a u, upd Hs c o a = some u → a ≠ c → Hs a = some u := fun a u e z => by
    rw [upd_ne z] at e
    exact e
  have ntH : ∀ ps, H c ≠ some (.tbl ps) := fun ps e => by
    rw [h] at e
    exact n ps (Option.some.inj e)
  refine ⟨⟨⟨fun a u e m => ?_, fun a ps e => ?_, fun P hP t => s.ex.tg P hP (s.wf.g P hP), fun t => s.ex.ts s.wf.l⟩, s.wf.ext e1, s.len, fun i d e => ?_, fun x hx => ?_, fun q hq => ?_, s.nd⟩, e1⟩
  · by_cases z : a = c
    · subst z
      rw [upd_same] at e
      rw [← e]
      exact h
    · exact s.ex.keep a u (back a u e z) m
  · by_cases z : a = c
    · subst z
      rw [upd_same] at e
      exact (n ps (Option.some.inj e)).elim
    · exact s.ex.tk a ps (back a _ e z)
  · obtain ⟨v, h1, h2⟩ := s.sl i d e
    exact ⟨v, h1, DR.mono e1 d h2⟩
  · exact x.st T K Hs _ H _ e1 (fun q hq => rfl) (s.rs x hx)
  · obtain ⟨h0, u, h1, h2⟩ := s.fr q hq
    have z : q ≠ c := fun z => nf (z ▸ hq)
    exact ⟨by rw [upd_ne z]; exact h0, u, h1, h2⟩
/-- a new resource -/
theorem SR.own (s : SR T K Hs H σ g r) {p : Addr} {o : HO} (h : H p = none) (n : NT o) {x : Res} (hx : x.fp = [p]) (ok : x.ok K Hs (upd H p o)) : SR T K Hs (upd H p o) σ g (x :: r) := by
  have np : ∀ q ∈ fps r, q ≠ p := fun q hq z => by
    obtain ⟨_, u, h1, _⟩ := s.fr q hq
    rw [z, h] at h1
    cases h1
  have e : fps (x :: r) = p :: fps r := by
    unfold fps
    rw [List.flatMap_cons, hx]
    rfl
  have t := s.grow (Ext.new (T := T) h (o := o))
  refine ⟨t.ex, s.wf, s.len, s.sl, fun y hy => ?_, fun q hq => ?_, ?_⟩
  · rcases List.mem_cons.mp hy with z | z
    · rw [z]
      exact ok
    · exact t.rs y z
  · rw [e] at hq
    rcases List.mem_cons.mp hq with z | z
    · rw [z]
      exact ⟨s.ex.back h, o, upd_same, n⟩
    · exact t.fr q z
  · rw [e]
    exact List.nodup_cons.mpr ⟨fun hq => np p hq rfl, s.nd⟩
theorem fps_set {x : Res} {r : Rs} {j : Nat} {y : Res} (h : r[j]? = some x) (e : y.fp = x.fp) : fps (r.set j y) = fps r := by
  induction r generalizing j with
  | nil => simp at h
  | cons a t ih =>
    cases j with
    | zero =>
      simp at h
      subst h
      show fps (y :: t) = fps (a :: t)
      unfold fps
      rw [List.flatMap_cons, List.flatMap_cons, e]
    | succ j =>
      simp at h
      have q := ih h
      unfold fps at q ⊢
      rw [List.set_cons_succ, List.flatMap_cons, List.flatMap_cons, q]
theorem mem_fps {x : Res} {r : Rs} {j : Nat} (h : r[j]? = some x) {p : Addr} (hp : p ∈ x.fp) : p ∈ fps r :=
  List.mem_flatMap.mpr ⟨x, List.mem_of_getElem? h, hp⟩
theorem fps_other {x y : Res} {r : Rs} {i j : Nat} (n : (fps r).Nodup) (hi : r[i]? = some x) (hj : r[j]? = some y) (d : i ≠ j) {p : Addr} (hp : p ∈ x.fp) : p ∉ y.fp := by
  induction r generalizing i j with
  | nil => simp at hi
  | cons a t ih =>
    have n' : (a.fp ++ fps t).Nodup := by
      unfold fps at n ⊢
      rw [List.flatMap_cons] at n
      exact n
    have nn := List.nodup_append.mp n'
    cases i with
    | zero =>
      cases j with
      | zero => exact (d rfl).elim
      | succ j =>
        simp at hi hj
        subst hi
        exact fun hq => nn.2.2 p hp p (mem_fps hj hq) rfl
    | succ i =>
      cases j with
      | zero =>
        simp at hi hj
        subst hj
        exact fun hq => nn.2.2 p hq p (mem_fps hi hp) rfl
      | succ j =>
        simp at hi hj
        exact ih nn.2.1 hi hj (fun z => d (by rw [z]))
/-- a resource changes at its own place -/
theorem SR.mut (s : SR T K Hs H σ g r) {j : Nat} {x y : Res} {p : Addr} {o : HO} (hj : r[j]? = some x) (hx : x.fp = [p]) (hy : y.fp = [p]) (n : NT o) (ok : y.ok K Hs (upd H p o)) : SR T K Hs (upd H p o) σ g (r.set j y) := by
  have hpr : p ∈ fps r := mem_fps hj (by rw [hx]; simp)
  obtain ⟨h0, u, h1, h2⟩ := s.fr p hpr
  have ef : fps (r.set j y) = fps r := fps_set hj (by rw [hx, hy])
  have nP : ∀ P qs, H P = some (.tbl qs) → P ≠ p := fun P qs e z => by
    rw [z, h1] at e
    exact h2.tb qs (Option.some.inj e)
  refine ⟨?_, s.wf, s.len, s.sl, fun z hz => ?_, fun q hq => ?_, by rw [ef]; exact s.nd⟩
  · refine ⟨fun a v e m => ?_, fun a ps e => ?_, fun P hP t => ?_, fun t => ?_⟩
    · have na : a ≠ p := fun z => by
        rw [z, h0] at e
        cases e
      rw [upd_ne na]
      exact s.ex.keep a v e m
    · obtain ⟨qs, q⟩ := s.ex.tk a ps e
      exact ⟨qs, by rw [upd_ne (nP a qs q)]; exact q⟩
    · obtain ⟨qs, q, z⟩ := s.ex.tg P hP t
      exact ⟨qs, by rw [upd_ne (nP P qs q)]; exact q, z⟩
    · intro pq hpq
      obtain ⟨qs, q, z1, z2⟩ := s.ex.ts s.wf.l pq hpq
      refine ⟨qs, by rw [upd_ne (nP _ qs q)]; exact q, z1, fun pos cv hc => ?_⟩
      obtain ⟨qs0, w0, w1, w2⟩ := s.wf.l pq hpq
      obtain ⟨c, e1, e2⟩ := z2 pos cv hc
      have nc : c ≠ p := fun z => by
        rw [z, h1] at e2
        exact h2.co _ _ (Option.some.inj e2)
      exact ⟨c, e1, by rw [upd_ne nc]; exact e2⟩
  · obtain ⟨i, hi⟩ := List.getElem?_of_mem hz
    by_cases hij : i = j
    · subst hij
      have hl : i < r.length := (List.getElem?_eq_some_iff.mp hj).1
      rw [List.getElem?_set_self hl] at hi
      cases hi
      exact ok
    · rw [List.getElem?_set_ne (Ne.symm hij)] at hi
      refine z.st T K Hs Hs H _ (Ext.refl _) (fun q hq => upd_ne ?_) (s.rs z (List.mem_of_getElem? hi))
      intro e
      subst e
      exact fps_other s.nd hi hj hij hq (by rw [hx]; simp)
  · rw [ef] at hq
    by_cases e : q = p
    · subst e
      exact ⟨h0, o, upd_same, n⟩
    · obtain ⟨z0, v, z1, z2⟩ := s.fr q hq
      exact ⟨z0, v, by rw [upd_ne e]; exact z1, z2⟩
theorem fps_erase : ∀ {r : Rs} {j : Nat}, (fps (r.eraseIdx j)).Sublist (fps r)
  | [], _ => List.Sublist.refl _
  | a :: t, 0 => by
    show (fps t).Sublist (fps (a :: t))
    unfold fps
    rw [List.flatMap_cons]
    exact List.sublist_append_right _ _
  | a :: t, j + 1 => by
    show (fps (a :: t.eraseIdx j)).Sublist (fps (a :: t))
    have q := fps_erase (r := t) (j := j)
    unfold fps at q ⊢
    rw [List.flatMap_cons, List.flatMap_cons]
    exact List.Sublist.append (List.Sublist.refl _) q
theorem mem_erase {r : Rs} {j : Nat} {x : Res} (h : x ∈ r.eraseIdx j) : ∃ i, i ≠ j ∧ r[i]? = some x := by
  obtain ⟨i, hi⟩ := List.getElem?_of_mem h
  rw [List.getElem?_eraseIdx] at hi
  split at hi
  · exact ⟨i, by omega, hi⟩
  · exact ⟨i + 1, by omega, hi⟩
/-- a resource is given up -/
theorem SR.drop (s : SR T K Hs H σ g r) (j : Nat) : SR T K Hs H σ g (r.eraseIdx j) :=
  ⟨s.ex, s.wf, s.len, s.sl, fun x hx => s.rs x (List.mem_of_mem_eraseIdx hx), fun p hp => s.fr p (fps_erase.subset hp), s.nd.sublist fps_erase⟩
theorem SR.drops (s : SR T K Hs H σ g r) : SR T K Hs H σ g [] :=
  ⟨s.ex, s.wf, s.len, s.sl, fun x hx => (nomatch hx), fun p hp => absurd (show p ∈ ([] : List Addr) from hp) (by simp), List.nodup_nil⟩
/-- a resource of one object stands still from now on -/
theorem SR.freeze (s : SR T K Hs H σ g r) {j : Nat} {x : Res} {p : Addr} {o : HO} (hj : r[j]? = some x) (hx : x.fp = [p]) (ho : H p = some o) : SR T K (upd Hs p o) H σ g (r.eraseIdx j) ∧ Ext T Hs (upd Hs p o) := by
  have hpr : p ∈ fps r := mem_fps hj (by rw [hx]; simp)
  obtain ⟨h0, u, h1, h2⟩ := s.fr p hpr
  have e1 : Ext T Hs (upd Hs p o) := Ext.new h0
  have d := s.drop j
  have np : ∀ q ∈ fps (r.eraseIdx j), q ≠ p := fun q hq z => by
    obtain ⟨y, hy, hqy⟩ := List.mem_flatMap.mp hq
    obtain ⟨i, hi, hyi⟩ := mem_erase hy
    exact fps_other s.nd hyi hj hi hqy (by rw [hx, z]; simp)
  refine ⟨⟨?_, s.wf.ext e1, s.len, fun i d e => ?_, fun y hy => ?_, fun q hq => ?_, d.nd⟩, e1⟩
  · refine ⟨fun a v e m => ?_, fun a ps e => ?_, fun P hP t => s.ex.tg P hP (s.wf.g P hP), fun t => s.ex.ts s.wf.l⟩
    · by_cases z : a = p
      · subst z
        rw [upd_same] at e
        rw [ho]
        exact e
      · rw [upd_ne z] at e
        exact s.ex.keep a v e m
    · by_cases z : a = p
      · subst z
        rw [upd_same] at e
        exact ⟨ps, by rw [ho]; exact e⟩
      · rw [upd_ne z] at e
        exact s.ex.tk a ps e
  · obtain ⟨v, h1, h2⟩ := s.sl i d e
    exact ⟨v, h1, DR.mono e1 d h2⟩
  · exact y.st T K Hs _ H _ e1 (fun _ _ => rfl) (d.rs y hy)
  · obtain ⟨z0, v, z1, z2⟩ := d.fr q hq
    exact ⟨by rw [upd_ne (np q hq)]; exact z0, v, z1, z2⟩
/-- a slot is stored -/
theorem SR.set (s : SR T K Hs H σ g r) {v : V} {d : D} (h : DR K Hs v d) (i : Nat) : SR T K Hs H (σ.set i (some v)) (g.set i (some d)) r := by
  refine ⟨s.ex, s.wf, by rw [List.length_set, List.length_set]; exact s.len, fun j e hj => ?_, s.rs, s.fr, s.nd⟩
  by_cases hij : j = i
  · subst hij
    have hl : j < g.length := by
      have q := (List.getElem?_eq_some_iff.mp hj).1
      rw [List.length_set] at q
      exact q
    rw [List.getElem?_set_self hl] at hj
    cases hj
    exact ⟨v, List.getElem?_set_self (by rw [s.len]; exact hl), h⟩
  · rw [List.getElem?_set_ne (Ne.symm hij)] at hj
    rw [List.getElem?_set_ne (Ne.symm hij)]
    exact s.sl j e hj
/-- what is known of the slots is forgotten in part -/
def Wk : G → G → Prop
  | [], [] => True
  | _ :: a, none :: b => Wk a b
  | some x :: a, some y :: b => x = y ∧ Wk a b
  | _, _ => False
theorem Wk.len : ∀ {a b : G}, Wk a b → a.length = b.length
  | [], [], _ => rfl
  | _ :: a, none :: b, h => congrArg (· + 1) (Wk.len (a := a) (b := b) (by cases a <;> exact h))
  | some x :: a, some y :: b, h => congrArg (· + 1) (Wk.len (a := a) (b := b) h.2)
  | none :: _, some _ :: _, h => h.elim
  | [], _ :: _, h => h.elim
  | none :: _, [], h => h.elim
  | some _ :: _, [], h => h.elim
theorem Wk.get : ∀ {a b : G} {i : Nat} {d : D}, Wk a b → b[i]? = some (some d) → a[i]? = some (some d)
  | [], [], _, _, _, e => by simp at e
  | x :: a, none :: b, 0, d, h, e => by simp at e
  | x :: a, none :: b, i + 1, d, h, e => by
    have h' : Wk a b := by cases a <;> exact h
    simpa using Wk.get h' (by simpa using e)
  | some x :: a, some y :: b, 0, d, h, e => by
    simp at e
    rw [← e, ← h.1]
    rfl
  | some x :: a, some y :: b, i + 1, d, h, e => by simpa using Wk.get h.2 (by simpa using e)
  | none :: _, some _ :: _, _, _, h, _ => h.elim
  | [], _ :: _, _, _, h, _ => h.elim
  | none :: _, [], _, _, h, _ => h.elim
  | some _ :: _, [], _, _, h, _ => h.elim
theorem SR.weak {g' : G} (s : SR T K Hs H σ g r) (w : Wk g g') : SR T K Hs H σ g' r :=
  ⟨s.ex, s.wf, s.len.trans w.len, fun i d e => s.sl i d (w.get e), s.rs, s.fr, s.nd⟩
end
end DL
namespace DL
open PySem PySem.Spec PyProof.Rows L2

section
variable (T : Tb) (K : PySem.W.Frag)
/-- an expression gives the data d -/
def Ev (te : TE) (g : G) (r : Rs) (d : D) (r' : Rs) : Prop := ∀ (rf : Rs) (Hs H : Hp) (σ : L2.St), SR T K Hs H σ g (r ++ rf) → ∀ Q : VK,
  (∀ v Hs' H', Ext T Hs Hs' → SR T K Hs' H' σ g (r' ++ rf) → DR K Hs' v d → Q v H') → te σ H Q
/-- .. a new list -/
def EvN (te : TE) (g : G) (r : Rs) (ds : List D) (r' : Rs) : Prop := ∀ (rf : Rs) (Hs H : Hp) (σ : L2.St), SR T K Hs H σ g (r ++ rf) → ∀ Q : VK,
  (∀ p Hs' H', Ext T Hs Hs' → SR T K Hs' H' σ g (rl p ds :: (r' ++ rf)) → Q (.ref p) H') → te σ H Q
/-- a test -/
def EvT (tt : TT) (g : G) (r : Rs) (b : Bool) (r' : Rs) : Prop := ∀ (rf : Rs) (Hs H : Hp) (σ : L2.St), SR T K Hs H σ g (r ++ rf) → ∀ Q : Bool → Hp → Prop,
  (∀ Hs' H', Ext T Hs Hs' → SR T K Hs' H' σ g (r' ++ rf) → Q b H') → tt σ H Q
/-- arguments -/
def EvA (ta : TA) (g : G) (r : Rs) (ds : List D) (r' : Rs) : Prop := ∀ (rf : Rs) (Hs H : Hp) (σ : L2.St), SR T K Hs H σ g (r ++ rf) → ∀ Q : List V → Hp → Prop,
  (∀ vs Hs' H', Ext T Hs Hs' → SR T K Hs' H' σ g (r' ++ rf) → DRs K Hs' vs ds → Q vs H') → ta σ H Q
/-- a part of a slice -/
def EvO (to : TO) (g : G) (r : Rs) (o : Option Int) (r' : Rs) : Prop := ∀ (rf : Rs) (Hs H : Hp) (σ : L2.St), SR T K Hs H σ g (r ++ rf) → ∀ Q : Option Int → Hp → Prop,
  (∀ Hs' H', Ext T Hs Hs' → SR T K Hs' H' σ g (r' ++ rf) → Q o H') → to σ H Q
/-- an operation on data -/
def OpD (f : R2) (x y : D) (g : G) (r : Rs) (d : D) (r' : Rs) : Prop := ∀ (rf : Rs) (Hs H : Hp) (σ : L2.St) (u v : V), SR T K Hs H σ g (r ++ rf) → DR K Hs u x → DR K Hs v y → ∀ Q : VK,
  (∀ v Hs' H', Ext T Hs Hs' → SR T K Hs' H' σ g (r' ++ rf) → DR K Hs' v d → Q v H') → f u v H Q
/-- a call of a built-in on data -/
def CaD (f : List V → Hp → VK → Prop) (xs : List D) (g : G) (r : Rs) (d : D) (r' : Rs) : Prop := ∀ (rf : Rs) (Hs H : Hp) (σ : L2.St) (us : List V), SR T K Hs H σ g (r ++ rf) → DRs K Hs us xs → ∀ Q : VK,
  (∀ v Hs' H', Ext T Hs Hs' → SR T K Hs' H' σ g (r' ++ rf) → DR K Hs' v d → Q v H') → f us H Q
/-- an expression raises an error of the class at C -/
def EvX (E : XK) (te : TE) (g : G) (r : Rs) (C : Addr) (r' : Rs) : Prop := ∀ (rf : Rs) (Hs H : Hp) (σ : L2.St), SR T K Hs H σ g (r ++ rf) → ∀ Q : VK,
  (∀ Hs' H', Ext T Hs Hs' → SR T K Hs' H' σ g (r' ++ rf) → E (.ref C) none H') → te σ H Q
end

section
variable {T : Tb} {K : PySem.W.Frag} {g g' : G} {r r' r1 r2 r3 : Rs} {ta tb tc te : TE} {t u : TT} {x y z d : D} {ds es xs : List D} {tas : TA} {f : R2}

/-! ### from one to another -/
theorem Ev.of_eq {d' : D} (h : Ev T K te g r d r') (e : d = d') : Ev T K te g r d' r' := e ▸ h
theorem EvN.ev (h : EvN T K te g r ds r') : Ev T K te g r (.lst ds) r' := fun rf Hs H σ s Q q => h rf Hs H σ s _ fun p Hs1 H1 e s1 => by
  obtain ⟨xs, h1, h2⟩ := s1.rs (rl p ds) (List.mem_cons_self)
  obtain ⟨s2, e2⟩ := s1.freeze (j := 0) (x := rl p ds) rfl rfl h1
  exact q _ _ _ (e.trans e2) s2 (.lst upd_same (DRs.mono e2 ds h2))
/-- what is to be read as a list, as a tuple, as one of both -/
def Vl (x : D) (r : Rs) (ds : List D) : Prop := x = .lst ds ∨ ∃ (p : Addr) (j : Nat), x = .ref p ∧ r[j]? = some (rl p ds)
def Vs (x : D) (r : Rs) (ds : List D) : Prop := x = .tup ds ∨ Vl x r ds
theorem vl_f : Vl (.lst ds) r ds := Or.inl rfl
theorem vl_o {p : Addr} (j : Nat) (h : r[j]? = some (rl p ds)) : Vl (.ref p) r ds := Or.inr ⟨p, j, rfl, h⟩
theorem vs_t : Vs (.tup ds) r ds := Or.inl rfl
theorem vs_f : Vs (.lst ds) r ds := Or.inr vl_f
theorem vs_o {p : Addr} (j : Nat) (h : r[j]? = some (rl p ds)) : Vs (.ref p) r ds := Or.inr (vl_o j h)
theorem Vl.at {rf : Rs} {Hs H : Hp} {σ : L2.St} {v : V} (h : Vl x r ds) (s : SR T K Hs H σ g (r ++ rf)) (rv : DR K Hs v x) : ∃ a xs, v = .ref a ∧ H a = some (.lst xs) ∧ DRs K Hs xs ds := by
  rcases h with e | ⟨p, j, e, hj⟩
  · subst e
    cases rv with
    | lst h1 h2 => exact ⟨_, _, rfl, s.ex.keep _ _ h1 (fun _ z => nomatch z), h2⟩
  · subst e
    cases rv
    obtain ⟨xs, h1, h2⟩ := s.rs _ (List.mem_append_left _ (List.mem_of_getElem? hj))
    exact ⟨p, xs, rfl, h1, h2⟩
theorem DR.tupI {Hs : Hp} {v : V} (rv : DR K Hs v (.tup ds)) : ∃ a xs, v = .ref a ∧ SqT K Hs a xs ∧ DRs K Hs xs ds := by
  cases rv with
  | tup h1 h2 => exact ⟨_, _, rfl, h1, h2⟩
theorem Vs.at {rf : Rs} {Hs H : Hp} {σ : L2.St} {v : V} (h : Vs x r ds) (s : SR T K Hs H σ g (r ++ rf)) (rv : DR K Hs v x) : ∃ a xs, v = .ref a ∧ (SqL K H a xs ∨ SqT K H a xs) ∧ DRs K Hs xs ds := by
  rcases h with e | h
  · subst e
    obtain ⟨a, xs, e, h1, h2⟩ := rv.tupI
    exact ⟨a, xs, e, Or.inr (s.ex.st h1), h2⟩
  · obtain ⟨a, xs, e, h1, h2⟩ := h.at s rv
    exact ⟨a, xs, e, Or.inl (Evl.sq_of h1), h2⟩

/-! ### names, constants -/
theorem ev_var {i : Nat} (h : g[i]? = some (some d)) : Ev T K (tVar i) g r d r := fun rf Hs H σ s Q q => by
  obtain ⟨v, h1, h2⟩ := s.sl i d h
  exact ⟨v, h1, q v Hs H (Ext.refl _) s h2⟩
theorem ev_int {i : Int} : Ev T K (tC (.int i)) g r (.int i) r := fun rf Hs H σ s Q q => q _ Hs H (Ext.refl _) s (.int i)
theorem ev_bl {b : Bool} : Ev T K (tC (.bl b)) g r (.bl b) r := fun rf Hs H σ s Q q => q _ Hs H (Ext.refl _) s (.bl b)
theorem ev_str {i : Str} : Ev T K (tC (.str i)) g r (.str i) r := fun rf Hs H σ s Q q => q _ Hs H (Ext.refl _) s (.str i)
theorem ev_non : Ev T K (tC .non) g r .non r := fun rf Hs H σ s Q q => q _ Hs H (Ext.refl _) s .non
theorem ev_ref {a : Addr} : Ev T K (tC (.ref a)) g r (.ref a) r := fun rf Hs H σ s Q q => q _ Hs H (Ext.refl _) s (.ref a)

/-! ### arguments, displays -/
theorem ea_nil : EvA T K tNil g r [] r := fun rf Hs H σ s Q q => q [] Hs H (Ext.refl _) s .nil
theorem ea_cons (h1 : Ev T K ta g r x r1) (h2 : EvA T K tas g r1 xs r2) : EvA T K (tCons ta tas) g r (x :: xs) r2 := fun rf Hs H σ s Q q =>
  h1 rf Hs H σ s _ fun v Hs1 H1 e1 s1 rv => h2 rf Hs1 H1 σ s1 _ fun vs Hs2 H2 e2 s2 rvs => q _ _ _ (e1.trans e2) s2 (.cons (DR.mono e2 x rv) rvs)
theorem ev_tup (h : EvA T K tas g r ds r') (hl : ds.length ≤ 100000) : Ev T K (tTup tas) g r (.tup ds) r' := fun rf Hs H σ s Q q =>
  h rf Hs H σ s _ fun vs Hs1 H1 e1 s1 rvs => ⟨by rw [rvs.length]; exact Evl.sz_of hl, fun p hp => by
    obtain ⟨s2, e2⟩ := s1.alloc (o := .tup vs) hp True.intro
    exact q _ _ _ (e1.trans e2) s2 (.tup (Evl.st_of upd_same) (DRs.mono e2 ds rvs))⟩
theorem en_lst (h : EvA T K tas g r ds r') (hl : ds.length ≤ 100000) : EvN T K (tLst tas) g r ds r' := fun rf Hs H σ s Q q =>
  h rf Hs H σ s _ fun vs Hs1 H1 e1 s1 rvs => ⟨by rw [rvs.length]; exact Evl.sz_of hl, fun p hp =>
    q p Hs1 _ e1 (s1.own (o := .lst vs) hp True.intro (x := rl p ds) rfl ⟨vs, upd_same, rvs⟩)⟩

/-! ### operations -/
theorem ev_op (h1 : Ev T K ta g r x r1) (h2 : Ev T K tb g r1 y r2) (h3 : OpD T K f x y g r2 d r3) : Ev T K (tOp f ta tb) g r d r3 := fun rf Hs H σ s Q q =>
  h1 rf Hs H σ s _ fun u Hs1 H1 e1 s1 ru => h2 rf Hs1 H1 σ s1 _ fun v Hs2 H2 e2 s2 rv => h3 rf Hs2 H2 σ u v s2 (DR.mono e2 x ru) rv Q fun w Hs3 H3 e3 s3 rw' => q w Hs3 H3 ((e1.trans e2).trans e3) s3 rw'
theorem od_I0 {h : Int → Int → V} {h' : Int → Int → D} {i j : Int} (hr : ∀ (Hs : Hp) i j, DR K Hs (h i j) (h' i j)) : OpD T K (rI0 h) (.int i) (.int j) g r (h' i j) r := fun rf Hs H σ u v s ru rv Q q => by
  cases ru
  cases rv
  exact ⟨i, j, rfl, rfl, q _ _ _ (Ext.refl _) s (hr Hs i j)⟩
theorem od_I0i {h : Int → Int → Int} {i j : Int} : OpD T K (rI0 fun i j => .int (h i j)) (.int i) (.int j) g r (.int (h i j)) r := od_I0 (h' := fun i j => .int (h i j)) fun _ i j => .int _
theorem od_I0b {h : Int → Int → Bool} {i j : Int} : OpD T K (rI0 fun i j => .bl (h i j)) (.int i) (.int j) g r (.bl (h i j)) r := od_I0 (h' := fun i j => .bl (h i j)) fun _ i j => .bl _
theorem od_I {C : Int → Int → Prop} {h : Int → Int → Int} {i j : Int} (hc : C i j) : OpD T K (rI C fun i j => .int (h i j)) (.int i) (.int j) g r (.int (h i j)) r := fun rf Hs H σ u v s ru rv Q q => by
  cases ru
  cases rv
  exact ⟨i, j, rfl, rfl, hc, q _ _ _ (Ext.refl _) s (.int _)⟩
theorem ev_neg {i : Int} (h : Ev T K ta g r (.int i) r1) : Ev T K (tUn (rU fun i => .int (-i)) ta) g r (.int (-i)) r1 := fun rf Hs H σ s Q q =>
  h rf Hs H σ s _ fun u Hs1 H1 e1 s1 ru => by
    cases ru
    exact ⟨i, rfl, q _ _ _ e1 s1 (.int _)⟩
/-- scalars compared -/
def sc : D → Option V
  | .non => some .non
  | .bl b => some (.bl b)
  | .int i => some (.int i)
  | .str x => some (.str x)
  | _ => none
theorem DR.sc {Hs : Hp} {u : V} {v : V} (h : DR K Hs u x) (e : sc x = some v) : u = v := by
  cases h <;> simp [DL.sc] at e <;> exact e
theorem od_eq {u v : V} (hx : sc x = some u) (hy : sc y = some v) (hs : scal u v = true) : OpD T K rEq x y g r (.bl (decide (u = v))) r := fun rf Hs H σ u' v' s ru rv Q q => by
  rw [ru.sc hx, rv.sc hy]
  exact ⟨hs, q _ _ _ (Ext.refl _) s (.bl _)⟩
theorem od_ne {u v : V} (hx : sc x = some u) (hy : sc y = some v) (hs : scal u v = true) : OpD T K rNe x y g r (.bl (!decide (u = v))) r := fun rf Hs H σ u' v' s ru rv Q q => by
  rw [ru.sc hx, rv.sc hy]
  exact ⟨hs, q _ _ _ (Ext.refl _) s (.bl _)⟩
theorem od_eqI {i j : Int} : OpD T K rEq (.int i) (.int j) g r (.bl (decide (i = j))) r := fun rf Hs H σ u v s ru rv Q q => by
  cases ru
  cases rv
  exact ⟨rfl, q _ _ _ (Ext.refl _) s (by
    have e : decide (V.int i = V.int j) = decide (i = j) := by simp
    rw [e]
    exact .bl _)⟩
theorem od_neI {i j : Int} : OpD T K rNe (.int i) (.int j) g r (.bl (decide (i ≠ j))) r := fun rf Hs H σ u v s ru rv Q q => by
  cases ru
  cases rv
  exact ⟨rfl, q _ _ _ (Ext.refl _) s (by
    have e : (!decide (V.int i = V.int j)) = decide (i ≠ j) := by simp
    rw [e]
    exact .bl _)⟩
theorem od_eqS {i j : Str} : OpD T K rEq (.str i) (.str j) g r (.bl (decide (i = j))) r := fun rf Hs H σ u v s ru rv Q q => by
  cases ru
  cases rv
  exact ⟨rfl, q _ _ _ (Ext.refl _) s (by
    have e : decide (V.str i = V.str j) = decide (i = j) := by simp
    rw [e]
    exact .bl _)⟩
theorem od_neS {i j : Str} : OpD T K rNe (.str i) (.str j) g r (.bl (decide (i ≠ j))) r := fun rf Hs H σ u v s ru rv Q q => by
  cases ru
  cases rv
  exact ⟨rfl, q _ _ _ (Ext.refl _) s (by
    have e : (!decide (V.str i = V.str j)) = decide (i ≠ j) := by simp
    rw [e]
    exact .bl _)⟩
theorem od_eqB {i j : Bool} : OpD T K rEq (.bl i) (.bl j) g r (.bl (i == j)) r := fun rf Hs H σ u v s ru rv Q q => by
  cases ru
  cases rv
  exact ⟨rfl, q _ _ _ (Ext.refl _) s (by
    have e : decide (V.bl i = V.bl j) = (i == j) := by cases i <;> cases j <;> rfl
    rw [e]
    exact .bl _)⟩
theorem od_neB {i j : Bool} : OpD T K rNe (.bl i) (.bl j) g r (.bl (i != j)) r := fun rf Hs H σ u v s ru rv Q q => by
  cases ru
  cases rv
  exact ⟨rfl, q _ _ _ (Ext.refl _) s (by
    have e : (!decide (V.bl i = V.bl j)) = (i != j) := by cases i <;> cases j <;> rfl
    rw [e]
    exact .bl _)⟩

/-! ### tests -/
theorem et_test {b : Bool} (h : Ev T K ta g r (.bl b) r1) : EvT T K (tTest ta) g r b r1 := fun rf Hs H σ s Q q => h rf Hs H σ s _ fun v Hs1 H1 e s1 rv => by
  cases rv
  exact ⟨b, rfl, q _ _ e s1⟩
theorem et_B {b : Bool} (h : Ev T K ta g r (.bl b) r1) : EvT T K (tB ta) g r b r1 := fun rf Hs H σ s Q q => h rf Hs H σ s _ fun v Hs1 H1 e s1 rv => by
  cases rv
  exact ⟨b, rfl, q _ _ e s1⟩
theorem et_not {b : Bool} (h : EvT T K t g r b r1) : EvT T K (tNot t) g r (!b) r1 := fun rf Hs H σ s Q q => h rf Hs H σ s _ fun Hs1 H1 e s1 => q _ _ e s1
theorem et_of_eq {b b' : Bool} (h : EvT T K t g r b r1) (e : b = b') : EvT T K t g r b' r1 := e ▸ h
theorem et_and {a b : Bool} (h1 : EvT T K t g r a r1) (h2 : a = true → EvT T K u g r1 b r1) : EvT T K (tAnd t u) g r (a && b) r1 := fun rf Hs H σ s Q q => h1 rf Hs H σ s _ fun Hs1 H1 e s1 => by
  cases a with
  | true => exact h2 rfl rf Hs1 H1 σ s1 Q fun Hs2 H2 e2 s2 => q _ _ (e.trans e2) s2
  | false => exact q _ _ e s1
theorem et_or {a b : Bool} (h1 : EvT T K t g r a r1) (h2 : a = false → EvT T K u g r1 b r1) : EvT T K (tOr t u) g r (a || b) r1 := fun rf Hs H σ s Q q => h1 rf Hs H σ s _ fun Hs1 H1 e s1 => by
  cases a with
  | true => exact q _ _ e s1
  | false => exact h2 rfl rf Hs1 H1 σ s1 Q fun Hs2 H2 e2 s2 => q _ _ (e.trans e2) s2
theorem et_or1 (h1 : EvT T K t g r true r1) : EvT T K (tOr t u) g r true r1 := fun rf Hs H σ s Q q => h1 rf Hs H σ s _ fun Hs1 H1 e s1 => q _ _ e s1
theorem et_or2 {b : Bool} (h1 : EvT T K t g r false r1) (h2 : EvT T K u g r1 b r2) : EvT T K (tOr t u) g r b r2 := fun rf Hs H σ s Q q => h1 rf Hs H σ s _ fun Hs1 H1 e s1 => h2 rf Hs1 H1 σ s1 Q fun Hs2 H2 e2 s2 => q _ _ (e.trans e2) s2
theorem et_and0 (h1 : EvT T K t g r false r1) : EvT T K (tAnd t u) g r false r1 := fun rf Hs H σ s Q q => h1 rf Hs H σ s _ fun Hs1 H1 e s1 => q _ _ e s1
theorem et_and2 {b : Bool} (h1 : EvT T K t g r true r1) (h2 : EvT T K u g r1 b r2) : EvT T K (tAnd t u) g r b r2 := fun rf Hs H σ s Q q => h1 rf Hs H σ s _ fun Hs1 H1 e s1 => h2 rf Hs1 H1 σ s1 Q fun Hs2 H2 e2 s2 => q _ _ (e.trans e2) s2
theorem ev_and {a b : Bool} (h1 : Ev T K ta g r (.bl a) r1) (h2 : a = true → Ev T K tb g r1 (.bl b) r1) : Ev T K (tAndV ta tb) g r (.bl (a && b)) r1 := fun rf Hs H σ s Q q => h1 rf Hs H σ s _ fun v Hs1 H1 e s1 rv => by
  cases rv
  refine ⟨a, rfl, ?_⟩
  cases a with
  | true => exact h2 rfl rf Hs1 H1 σ s1 Q fun v Hs2 H2 e2 s2 => q _ _ _ (e.trans e2) s2
  | false => exact q _ _ _ e s1 (.bl _)
theorem ev_or {a b : Bool} (h1 : Ev T K ta g r (.bl a) r1) (h2 : a = false → Ev T K tb g r1 (.bl b) r1) : Ev T K (tOrV ta tb) g r (.bl (a || b)) r1 := fun rf Hs H σ s Q q => h1 rf Hs H σ s _ fun v Hs1 H1 e s1 rv => by
  cases rv
  refine ⟨a, rfl, ?_⟩
  cases a with
  | true => exact q _ _ _ e s1 (.bl _)
  | false => exact h2 rfl rf Hs1 H1 σ s1 Q fun v Hs2 H2 e2 s2 => q _ _ _ (e.trans e2) s2
theorem ev_not {a : Bool} (h1 : Ev T K ta g r (.bl a) r1) : Ev T K (tNotV ta) g r (.bl (!a)) r1 := fun rf Hs H σ s Q q => h1 rf Hs H σ s _ fun v Hs1 H1 e s1 rv => by
  cases rv
  exact ⟨a, rfl, q _ _ _ e s1 (.bl _)⟩
theorem ev_if {b : Bool} (h : EvT T K t g r b r1) (h1 : b = true → Ev T K ta g r1 d r2) (h2 : b = false → Ev T K tb g r1 d r2) : Ev T K (tIf t ta tb) g r d r2 := fun rf Hs H σ s Q q => h rf Hs H σ s _ fun Hs1 H1 e s1 => by
  cases b with
  | true => exact h1 rfl rf Hs1 H1 σ s1 Q fun v Hs2 H2 e2 s2 => q _ _ _ (e.trans e2) s2
  | false => exact h2 rfl rf Hs1 H1 σ s1 Q fun v Hs2 H2 e2 s2 => q _ _ _ (e.trans e2) s2
/-- a chain of two comparisons -/
theorem ev_chain {f' : R2} {b b' : Bool} (h1 : Ev T K ta g r x r1) (h2 : Ev T K tb g r1 y r1) (h3 : OpD T K f x y g r1 (.bl b) r1) (h4 : b = true → Ev T K tc g r1 z r1) (h5 : b = true → OpD T K f' y z g r1 (.bl b') r1) : Ev T K (tChain f f' ta tb tc) g r (.bl (b && b')) r1 := fun rf Hs H σ s Q q =>
  h1 rf Hs H σ s _ fun u Hs1 H1 e1 s1 ru => h2 rf Hs1 H1 σ s1 _ fun v Hs2 H2 e2 s2 rv => h3 rf Hs2 H2 σ u v s2 (DR.mono e2 x ru) rv _ fun w Hs3 H3 e3 s3 rw' => by
    cases rw'
    refine ⟨b, rfl, ?_⟩
    cases b with
    | true => exact h4 rfl rf Hs3 H3 σ s3 _ fun z' Hs4 H4 e4 s4 rz => h5 rfl rf Hs4 H4 σ v z' s4 (DR.mono (e3.trans e4) y rv) rz Q fun w' Hs5 H5 e5 s5 r5 => q _ _ _ ((((e1.trans e2).trans e3).trans e4).trans e5) s5 r5
    | false => exact q _ _ _ ((e1.trans e2).trans e3) s3 (.bl _)

/-! ### items, lengths -/
theorem ixN_nat {n j : Nat} (hj : j < n) : ixN n (j : Int) = some j := Evl.ixN_nat hj
theorem atI_of {α : Type} {xs : List α} {i : Int} {v : α} (h0 : 0 ≤ i) (h : xs[i.toNat]? = some v) : atI xs i = some v := by
  obtain ⟨n, rfl⟩ : ∃ n : Nat, i = (n : Int) := ⟨i.toNat, by omega⟩
  exact atI_nat (by simpa using h)
theorem DRs.at {Hs : Hp} {vs : List V} {i : Int} (h : DRs K Hs vs ds) (e : atI ds i = some d) : ∃ v, atI vs i = some v ∧ DR K Hs v d := by
  unfold atI at e ⊢
  rw [h.length]
  cases q : ixN ds.length i with
  | none => rw [q] at e; cases e
  | some j =>
    rw [q] at e
    exact h.get e
theorem od_ixT {i : Int} (h : atI ds i = some d) : OpD T K (rIxT K) (.tup ds) (.int i) g r d r := fun rf Hs H σ u v s ru rv Q q => by
  cases rv
  obtain ⟨a, xs, rfl, h1, h2⟩ := ru.tupI
  obtain ⟨w, q1, q2⟩ := h2.at h
  exact ⟨a, xs, i, w, rfl, rfl, s.ex.st h1, q1, q _ _ _ (Ext.refl _) s q2⟩
theorem od_ixL {i : Int} (h0 : Vl x r ds) (h : atI ds i = some d) : OpD T K (rIxL K) x (.int i) g r d r := fun rf Hs H σ u v s ru rv Q q => by
  cases rv
  obtain ⟨a, xs, rfl, h1, h2⟩ := h0.at s ru
  obtain ⟨w, q1, q2⟩ := h2.at h
  exact ⟨a, xs, i, w, rfl, rfl, Evl.sq_of h1, q1, q _ _ _ (Ext.refl _) s q2⟩
theorem od_ixS {zs : Str} {i : Int} {c : Nat} (hl : zs.length ≤ 100000) (h : atI zs.cps.toList i = some c) : OpD T K rIxS (.str zs) (.int i) g r (.str ⟨#[c]⟩) r := fun rf Hs H σ u v s ru rv Q q => by
  cases ru
  cases rv
  exact ⟨zs, i, c, rfl, rfl, Evl.sz_of hl, h, q _ _ _ (Ext.refl _) s (.str _)⟩

/-! ### calls of built-ins -/
abbrev _root_.L2.rLenX (K : PySem.W.Frag) : List V → Hp → VK → Prop := fun xs H Q => ∃ x n, xs = [x] ∧ LenV K x H n ∧ Q (.int n) H
abbrev _root_.L2.rListOfX (K : PySem.W.Frag) : List V → Hp → VK → Prop := fun xs H Q => ∃ p ys, xs = [.ref p] ∧ (SqL K H p ys ∨ SqT K H p ys) ∧ ∀ l, H l = none → Q (.ref l) (upd H l (.lst ys))

theorem ev_cb {h : List V → Hp → VK → Prop} (h1 : EvA T K tas g r ds r1) (h2 : CaD T K h ds g r1 d r2) : Ev T K (tCB h tas) g r d r2 := fun rf Hs H σ s Q q =>
  h1 rf Hs H σ s _ fun vs Hs1 H1 e1 s1 rvs => h2 rf Hs1 H1 σ vs s1 rvs Q fun v Hs2 H2 e2 s2 rv => q _ _ _ (e1.trans e2) s2 rv
theorem DRs.one {Hs : Hp} {vs : List V} (h : DRs K Hs vs [x]) : ∃ v, vs = [v] ∧ DR K Hs v x := by
  cases h with
  | cons h1 h2 =>
    cases h2
    exact ⟨_, rfl, h1⟩
theorem DRs.two {Hs : Hp} {vs : List V} (h : DRs K Hs vs [x, y]) : ∃ v w, vs = [v, w] ∧ DR K Hs v x ∧ DR K Hs w y := by
  cases h with
  | cons h1 h2 =>
    obtain ⟨w, rfl, h3⟩ := h2.one
    exact ⟨_, _, rfl, h1, h3⟩
theorem ca_len (h : Vs x r ds) : CaD T K (fun xs H Q => ∃ x n, xs = [x] ∧ LenV K x H n ∧ Q (.int n) H) [x] g r (.int (ds.length : Int)) r := fun rf Hs H σ us s ru Q q => by
  obtain ⟨v, rfl, rv⟩ := ru.one
  obtain ⟨a, xs, rfl, h1, h2⟩ := h.at s rv
  refine ⟨_, ds.length, rfl, ?_, q _ _ _ (Ext.refl _) s (.int _)⟩
  rcases h1 with h1 | h1
  · exact Or.inl ⟨xs, h1, h2.length.symm⟩
  · exact Or.inr ⟨xs, h1, h2.length.symm⟩
theorem ca_lenS {zs : Str} (h : zs.length ≤ 100000) : CaD T K (fun xs H Q => ∃ x n, xs = [x] ∧ LenV K x H n ∧ Q (.int n) H) [.str zs] g r (.int (zs.length : Int)) r := fun rf Hs H σ us s ru Q q => by
  obtain ⟨v, rfl, rv⟩ := ru.one
  cases rv
  exact ⟨_, zs.length, rfl, ⟨Evl.sz_of h, rfl⟩, q _ _ _ (Ext.refl _) s (.int _)⟩
end
end DL
namespace DL
open PySem PySem.Spec PyProof.Rows L2

/-! ### statements -/
/-- how a block may end: by what the slots hold and what is one's own -/
structure Out where
  nx : G → Rs → Prop := fun _ _ => False
  rt : D → Rs → Prop := fun _ _ => False
  bk : G → Rs → Prop := fun _ _ => False
  ct : G → Rs → Prop := fun _ _ => False
  ex : Addr → Rs → Prop := fun _ _ => False

section
variable (T : Tb) (K : PySem.W.Frag) (E : XK)
structure Good (rf : Rs) (Hs : Hp) (O : Out) (En : Ends) : Prop where
  nx : ∀ g r Hs' H' σ, O.nx g r → Ext T Hs Hs' → SR T K Hs' H' σ g (r ++ rf) → En.nx σ H'
  rt : ∀ d g r v Hs' H' σ, O.rt d r → Ext T Hs Hs' → SR T K Hs' H' σ g (r ++ rf) → DR K Hs' v d → En.rt v H'
  bk : ∀ g r Hs' H' σ, O.bk g r → Ext T Hs Hs' → SR T K Hs' H' σ g (r ++ rf) → En.bk σ H'
  ct : ∀ g r Hs' H' σ, O.ct g r → Ext T Hs Hs' → SR T K Hs' H' σ g (r ++ rf) → En.ct σ H'
  ex : ∀ C g r Hs' H' σ, O.ex C r → Ext T Hs Hs' → SR T K Hs' H' σ g (r ++ rf) → E (.ref C) none H'
def StD (ts : TS) (g : G) (r : Rs) (O : Out) : Prop := ∀ (rf : Rs) (Hs H : Hp) (σ : L2.St), SR T K Hs H σ g (r ++ rf) → ∀ En : Ends, Good T K E rf Hs O En → ts En σ H
/-- a target is assigned -/
def EvG (tg : TG) (is : List Nat) (d : D) (g g' : G) : Prop := ∀ (Hs H : Hp) (σ : L2.St) (r : Rs) (v : V), SR T K Hs H σ g r → DR K Hs v d → ∀ Q : L2.St → Hp → Prop,
  (∀ σ', SR T K Hs H σ' g' r → (∀ w : List Nat, (∀ i ∈ is, i ∈ w) → wipe σ' w = wipe σ w) → Q σ' H) → tg v σ H Q
/-- what a loop walks: the items one by one -/
def Steps (Hs : Hp) (J : It) (ds : List D) : Prop := ∀ (i : Nat) (Hs' H' : Hp), Ext T Hs Hs' → Ext T Hs' H' →
  (ds.length ≤ i → J.stop i H') ∧ (∀ d, ds[i]? = some d → J.go i H' ∧ ∀ v H2, J.yld i H' v H2 → ∃ Hs2, Ext T Hs' Hs2 ∧ DR K Hs2 v d ∧ ∀ σ g r, SR T K Hs' H' σ g r → SR T K Hs2 H2 σ g r)
def EvI (ti : TI) (g : G) (r : Rs) (ds : List D) (r' : Rs) : Prop := ∀ (rf : Rs) (Hs H : Hp) (σ : L2.St), SR T K Hs H σ g (r ++ rf) → ∀ R : It → Hp → Prop,
  (∀ J Hs' H', Ext T Hs Hs' → SR T K Hs' H' σ g (r' ++ rf) → Steps T K Hs' J ds → R J H') → ti σ H R
end

section
variable {T : Tb} {K : PySem.W.Frag} {E : XK} {g g' : G} {r r' r1 r2 r3 : Rs} {ta tb tc te : TE} {t : TT} {x y z d : D} {ds es xs : List D} {tas : TA} {f : R2} {O O' : Out} {s1 s2 ts tu : TS} {i j k : Nat} {tg : TG}

theorem Good.ext {rf : Rs} {Hs Hs' : Hp} {En : Ends} (h : Good T K E rf Hs O En) (e : Ext T Hs Hs') : Good T K E rf Hs' O En :=
  ⟨fun g r Hs1 H1 σ o e1 => h.nx g r Hs1 H1 σ o (e.trans e1), fun d g r v Hs1 H1 σ o e1 => h.rt d g r v Hs1 H1 σ o (e.trans e1), fun g r Hs1 H1 σ o e1 => h.bk g r Hs1 H1 σ o (e.trans e1),
   fun g r Hs1 H1 σ o e1 => h.ct g r Hs1 H1 σ o (e.trans e1), fun C g r Hs1 H1 σ o e1 => h.ex C g r Hs1 H1 σ o (e.trans e1)⟩
theorem st_mono (h : StD T K E ts g r O) (n : ∀ g r, O.nx g r → O'.nx g r) (t : ∀ d r, O.rt d r → O'.rt d r) (b : ∀ g r, O.bk g r → O'.bk g r) (c : ∀ g r, O.ct g r → O'.ct g r) (x : ∀ C r, O.ex C r → O'.ex C r) : StD T K E ts g r O' :=
  fun rf Hs H σ s En G => h rf Hs H σ s En ⟨fun g r Hs1 H1 σ o => G.nx g r Hs1 H1 σ (n _ _ o), fun d g r v Hs1 H1 σ o => G.rt d g r v Hs1 H1 σ (t _ _ o), fun g r Hs1 H1 σ o => G.bk g r Hs1 H1 σ (b _ _ o),
    fun g r Hs1 H1 σ o => G.ct g r Hs1 H1 σ (c _ _ o), fun C g r Hs1 H1 σ o => G.ex C g r Hs1 H1 σ (x _ _ o)⟩
/-- before it: forget, give up, let stand still -/
theorem st_weak (w : Wk g g') (h : StD T K E ts g' r O) : StD T K E ts g r O := fun rf Hs H σ s => h rf Hs H σ (s.weak w)
theorem eraseIdx_app {α : Type} {l m : List α} {j : Nat} (h : j < l.length) : (l ++ m).eraseIdx j = l.eraseIdx j ++ m := List.eraseIdx_append_of_lt_length h m
theorem lt_of_some {α : Type} {l : List α} {j : Nat} {a : α} (h : l[j]? = some a) : j < l.length := (List.getElem?_eq_some_iff.mp h).1
theorem get_app {α : Type} {l m : List α} {j : Nat} {a : α} (h : l[j]? = some a) : (l ++ m)[j]? = some a := by
  rw [List.getElem?_append_left (lt_of_some h)]
  exact h
theorem set_app {α : Type} {l m : List α} {j : Nat} {a b : α} (h : l[j]? = some a) : (l ++ m).set j b = l.set j b ++ m := by
  rw [List.set_append_left _ _ (lt_of_some h)]
theorem st_drop {x : Res} (j : Nat) (hj : r[j]? = some x) (h : StD T K E ts g (r.eraseIdx j) O) : StD T K E ts g r O := fun rf Hs H σ s => h rf Hs H σ (by rw [← eraseIdx_app (lt_of_some hj)]; exact s.drop j)
theorem SR.freezeAt {Hs H : Hp} {σ : L2.St} (s : SR T K Hs H σ g r) {i j : Nat} {p : Addr} (hj : r[j]? = some (rl p ds)) (hi : g[i]? = some (some (.ref p))) :
    ∃ Hs', Ext T Hs Hs' ∧ SR T K Hs' H σ (g.set i (some (.lst ds))) (r.eraseIdx j) := by
  obtain ⟨ys, h1, h2⟩ := s.rs _ (List.mem_of_getElem? hj)
  obtain ⟨s2, e2⟩ := s.freeze hj rfl h1
  refine ⟨_, e2, s2.ex, s2.wf, by rw [List.length_set]; exact s2.len, fun k d hk => ?_, s2.rs, s2.fr, s2.nd⟩
  by_cases hik : k = i
  · subst hik
    have hl : k < g.length := (List.getElem?_eq_some_iff.mp hi).1
    rw [List.getElem?_set_self hl] at hk
    cases hk
    obtain ⟨v, a1, a2⟩ := s.sl k _ hi
    cases a2
    exact ⟨_, a1, .lst upd_same (DRs.mono e2 ds h2)⟩
  · rw [List.getElem?_set_ne (Ne.symm hik)] at hk
    exact s2.sl k d hk
theorem st_freeze (i j : Nat) {p : Addr} (hj : r[j]? = some (rl p ds)) (hi : g[i]? = some (some (.ref p))) (h : StD T K E ts (g.set i (some (.lst ds))) (r.eraseIdx j) O) : StD T K E ts g r O := fun rf Hs H σ s En G => by
  obtain ⟨Hs', e, s'⟩ := s.freezeAt (get_app hj) hi
  exact h rf Hs' H σ (by rw [← eraseIdx_app (lt_of_some hj)]; exact s') En (G.ext e)

theorem st_next (h : O.nx g r) : StD T K E tNext g r O := fun rf Hs H σ s En G => G.nx g r Hs H σ h (Ext.refl _) s
theorem st_brk (h : O.bk g r) : StD T K E tBreak g r O := fun rf Hs H σ s En G => G.bk g r Hs H σ h (Ext.refl _) s
theorem st_cont (h : O.ct g r) : StD T K E tCont g r O := fun rf Hs H σ s En G => G.ct g r Hs H σ h (Ext.refl _) s
theorem st_seq {M : G → Rs → Prop} (h : StD T K E s1 g r { O with nx := M }) (h2 : ∀ g r, M g r → StD T K E s2 g r O) : StD T K E (tSeq s1 s2) g r O := fun rf Hs H σ s En G =>
  h rf Hs H σ s { En with nx := s2 En } ⟨fun g r Hs1 H1 σ1 o e s' => h2 g r o rf Hs1 H1 σ1 s' En (G.ext e), G.rt, G.bk, G.ct, G.ex⟩
theorem st_set (h : Ev T K te g r d r1) (h2 : O.nx (g.set i (some d)) r1) : StD T K E (tAsg te (gName i)) g r O := fun rf Hs H σ s En G =>
  h rf Hs H σ s _ fun v Hs1 H1 e s' rv => G.nx _ _ _ _ _ h2 e (s'.set rv i)
theorem sq_set (h : Ev T K te g r d r1) (h2 : StD T K E s2 (g.set i (some d)) r1 O) : StD T K E (tSeq (tAsg te (gName i)) s2) g r O := fun rf Hs H σ s En G =>
  h rf Hs H σ s _ fun v Hs1 H1 e s' rv => h2 rf Hs1 H1 _ (s'.set rv i) En (G.ext e)
theorem st_new (h : EvN T K te g r ds r1) (h2 : ∀ p, O.nx (g.set i (some (.ref p))) (rl p ds :: r1)) : StD T K E (tAsg te (gName i)) g r O := fun rf Hs H σ s En G =>
  h rf Hs H σ s _ fun p Hs1 H1 e s' => G.nx _ _ _ _ _ (h2 p) e (s'.set (.ref p) i)
theorem sq_new (h : EvN T K te g r ds r1) (h2 : ∀ p, StD T K E s2 (g.set i (some (.ref p))) (rl p ds :: r1) O) : StD T K E (tSeq (tAsg te (gName i)) s2) g r O := fun rf Hs H σ s En G =>
  h rf Hs H σ s _ fun p Hs1 H1 e s' => h2 p rf Hs1 H1 _ (s'.set (.ref p) i) En (G.ext e)
/-- a, b = e1, e2 -/
theorem st_par (h : EvA T K tas g r [x, y] r1) (h2 : O.nx ((g.set i (some x)).set j (some y)) r1) : StD T K E (tPar i j tas) g r O := fun rf Hs H σ s En G =>
  h rf Hs H σ s _ fun vs Hs1 H1 e s' rvs => by
    obtain ⟨v, w, rfl, rv, rw'⟩ := rvs.two
    exact ⟨v, w, rfl, G.nx _ _ _ _ _ h2 e ((s'.set rv i).set rw' j)⟩
theorem sq_par (h : EvA T K tas g r [x, y] r1) (h2 : StD T K E s2 ((g.set i (some x)).set j (some y)) r1 O) : StD T K E (tSeq (tPar i j tas) s2) g r O := fun rf Hs H σ s En G =>
  h rf Hs H σ s _ fun vs Hs1 H1 e s' rvs => by
    obtain ⟨v, w, rfl, rv, rw'⟩ := rvs.two
    exact ⟨v, w, rfl, h2 rf Hs1 H1 _ ((s'.set rv i).set rw' j) En (G.ext e)⟩
theorem st_ret (h : Ev T K te g r d r1) (h2 : O.rt d r1) : StD T K E (tRet te) g r O := fun rf Hs H σ s En G =>
  h rf Hs H σ s _ fun v Hs1 H1 e s' rv => G.rt _ _ _ _ _ _ _ h2 e s' rv
/-- return of a list of one's own -/
theorem st_retO {p : Addr} (j : Nat) (h : Ev T K te g r (.ref p) r1) (hj : r1[j]? = some (rl p ds)) (h2 : O.rt (.lst ds) (r1.eraseIdx j)) : StD T K E (tRet te) g r O := fun rf Hs H σ s En G =>
  h rf Hs H σ s _ fun v Hs1 H1 e s' rv => by
    cases rv
    obtain ⟨ys, a1, a2⟩ := s'.rs _ (List.mem_append_left _ (List.mem_of_getElem? hj))
    obtain ⟨s2, e2⟩ := s'.freeze (get_app hj) rfl a1
    exact G.rt _ _ _ _ _ _ _ h2 (e.trans e2) (by rw [← eraseIdx_app (lt_of_some hj)]; exact s2) (.lst upd_same (DRs.mono e2 ds a2))
theorem st_retN (h : O.rt .non r) : StD T K E tRetN g r O := fun rf Hs H σ s En G => G.rt _ _ _ _ _ _ _ h (Ext.refl _) s .non
theorem st_dropE (h : Ev T K te g r d r1) (h2 : O.nx g r1) : StD T K E (tDrop te) g r O := fun rf Hs H σ s En G =>
  h rf Hs H σ s _ fun v Hs1 H1 e s' rv => G.nx _ _ _ _ _ h2 e s'
theorem sq_drop (h : Ev T K te g r d r1) (h2 : StD T K E s2 g r1 O) : StD T K E (tSeq (tDrop te) s2) g r O := fun rf Hs H σ s En G =>
  h rf Hs H σ s _ fun v Hs1 H1 e s' rv => h2 rf Hs1 H1 _ s' En (G.ext e)
theorem st_aug {h' : Int → Int → Int} {m n : Int} (hx : g[i]? = some (some (.int m))) (h : Ev T K te g r (.int n) r1) (h2 : O.nx (g.set i (some (.int (h' m n)))) r1) : StD T K E (tAug i te (ipI h')) g r O := fun rf Hs H σ s En G => by
  obtain ⟨v, a1, a2⟩ := s.sl i _ hx
  cases a2
  exact ⟨_, a1, h rf Hs H σ s _ fun v Hs1 H1 e s' rv => by
    cases rv
    exact ⟨m, n, rfl, rfl, G.nx _ _ _ _ _ h2 e (s'.set (.int _) i)⟩⟩
theorem sq_aug {h' : Int → Int → Int} {m n : Int} (hx : g[i]? = some (some (.int m))) (h : Ev T K te g r (.int n) r1) (h2 : StD T K E s2 (g.set i (some (.int (h' m n)))) r1 O) : StD T K E (tSeq (tAug i te (ipI h')) s2) g r O := fun rf Hs H σ s En G => by
  obtain ⟨v, a1, a2⟩ := s.sl i _ hx
  cases a2
  exact ⟨_, a1, h rf Hs H σ s _ fun v Hs1 H1 e s' rv => by
    cases rv
    exact ⟨m, n, rfl, rfl, h2 rf Hs1 H1 _ (s'.set (.int _) i) En (G.ext e)⟩⟩
theorem st_if {b : Bool} (h : EvT T K t g r b r1) (h1 : b = true → StD T K E s1 g r1 O) (h2 : b = false → StD T K E s2 g r1 O) : StD T K E (tIfS t s1 s2) g r O := fun rf Hs H σ s En G =>
  h rf Hs H σ s _ fun Hs1 H1 e s' => by
    cases b with
    | true => exact h1 rfl rf Hs1 H1 _ s' En (G.ext e)
    | false => exact h2 rfl rf Hs1 H1 _ s' En (G.ext e)
theorem sq_if {b : Bool} (h : EvT T K t g r b r1) (h1 : b = true → StD T K E (tSeq s1 ts) g r1 O) (h2 : b = false → StD T K E (tSeq s2 ts) g r1 O) : StD T K E (tSeq (tIfS t s1 s2) ts) g r O := fun rf Hs H σ s En G =>
  h rf Hs H σ s _ fun Hs1 H1 e s' => by
    cases b with
    | true => exact h1 rfl rf Hs1 H1 _ s' En (G.ext e)
    | false => exact h2 rfl rf Hs1 H1 _ s' En (G.ext e)
theorem sq_next (h : StD T K E ts g r O) : StD T K E (tSeq tNext ts) g r O := h
theorem sq_seq (h : StD T K E (tSeq s1 (tSeq s2 ts)) g r O) : StD T K E (tSeq (tSeq s1 s2) ts) g r O := h
/-- what ends does not ask for what follows -/
theorem sq_ret (h : StD T K E (tRet te) g r { O with nx := fun _ _ => False }) : StD T K E (tSeq (tRet te) ts) g r O := fun rf Hs H σ s En G => h rf Hs H σ s { En with nx := ts En } ⟨fun _ _ _ _ _ o => o.elim, G.rt, G.bk, G.ct, G.ex⟩
theorem sq_retN (h : O.rt .non r) : StD T K E (tSeq tRetN ts) g r O := fun rf Hs H σ s En G => G.rt _ _ _ _ _ _ _ h (Ext.refl _) s .non
theorem sq_brk (h : O.bk g r) : StD T K E (tSeq tBreak ts) g r O := fun rf Hs H σ s En G => G.bk g r Hs H σ h (Ext.refl _) s
theorem sq_cont (h : O.ct g r) : StD T K E (tSeq tCont ts) g r O := fun rf Hs H σ s En G => G.ct g r Hs H σ h (Ext.refl _) s
/-- raise C('..') of a class of one's own -/
theorem st_raise {C : Addr} (h : O.ex C r) : StD T K E (fun _ _ H => E (.ref C) none H) g r O := fun rf Hs H σ s En G => G.ex C _ _ _ _ _ h (Ext.refl _) s
theorem sq_raise {C : Addr} (h : O.ex C r) : StD T K E (tSeq (fun _ _ H => E (.ref C) none H) ts) g r O := fun rf Hs H σ s En G => G.ex C _ _ _ _ _ h (Ext.refl _) s
/-- an expression of the statement raises -/
theorem st_exE {C : Addr} (h : EvX T K E te g r C r1) (h2 : O.ex C r1) : StD T K E (tDrop te) g r O := fun rf Hs H σ s En G => h rf Hs H σ s _ fun Hs1 H1 e s' => G.ex C _ _ _ _ _ h2 e s'
theorem sq_exE {C : Addr} (h : EvX T K E te g r C r1) (h2 : O.ex C r1) : StD T K E (tSeq (tDrop te) ts) g r O := fun rf Hs H σ s En G => h rf Hs H σ s _ fun Hs1 H1 e s' => G.ex C _ _ _ _ _ h2 e s'
theorem st_exR {C : Addr} (h : EvX T K E te g r C r1) (h2 : O.ex C r1) : StD T K E (tRet te) g r O := fun rf Hs H σ s En G => h rf Hs H σ s _ fun Hs1 H1 e s' => G.ex C _ _ _ _ _ h2 e s'
theorem st_exS {C : Addr} (h : EvX T K E te g r C r1) (h2 : O.ex C r1) : StD T K E (tAsg te tg) g r O := fun rf Hs H σ s En G => h rf Hs H σ s _ fun Hs1 H1 e s' => G.ex C _ _ _ _ _ h2 e s'
theorem sq_exS {C : Addr} (h : EvX T K E te g r C r1) (h2 : O.ex C r1) : StD T K E (tSeq (tAsg te tg) ts) g r O := fun rf Hs H σ s En G => h rf Hs H σ s _ fun Hs1 H1 e s' => G.ex C _ _ _ _ _ h2 e s'

/-! ### targets -/
theorem wipe_set {i : Nat} {x : Option V} : ∀ {w : List Nat} {σ : L2.St}, i ∈ w → wipe (σ.set i x) w = wipe σ w
  | [], _, h => (nomatch h)
  | v :: w, σ, h => by
    show (wipe (σ.set i x) w).set v none = (wipe σ w).set v none
    by_cases hi : i ∈ w
    · rw [wipe_set hi]
    · have e : i = v := by
        rcases List.mem_cons.mp h with z | z
        · exact z
        · exact (hi z).elim
      subst e
      have c : ∀ (u : List Nat) (τ : L2.St), i ∉ u → wipe (τ.set i x) u = (wipe τ u).set i x := by
        intro u
        induction u with
        | nil => intro τ _; rfl
        | cons a u ih =>
          intro τ hn
          simp only [List.mem_cons, not_or] at hn
          show (wipe (τ.set i x) u).set a none = ((wipe τ u).set a none).set i x
          rw [ih τ hn.2, List.set_comm _ _ hn.1]
      rw [c w σ hi, List.set_set]
theorem eg_name : EvG T K (gName i) [i] d g (g.set i (some d)) := fun Hs H σ r v s rv Q q => q _ (s.set rv i) fun w hw => wipe_set (hw i (by simp))
def EvGs (T : Tb) (K : PySem.W.Frag) (tg : TGs) (is : List Nat) (ds : List D) (g g' : G) : Prop := ∀ (Hs H : Hp) (σ : L2.St) (r : Rs) (vs : List V), SR T K Hs H σ g r → DRs K Hs vs ds → ∀ Q : L2.St → Hp → Prop,
  (∀ σ', SR T K Hs H σ' g' r → (∀ w : List Nat, (∀ i ∈ is, i ∈ w) → wipe σ' w = wipe σ w) → Q σ' H) → tg vs σ H Q
theorem egs_nil : EvGs T K gNil [] [] g g := fun Hs H σ r vs s rvs Q q => by
  cases rvs
  exact ⟨rfl, q σ s fun _ _ => rfl⟩
theorem egs_cons {tgs : TGs} {g2 : G} {is js : List Nat} (h1 : EvG T K tg is d g g') (h2 : EvGs T K tgs js ds g' g2) : EvGs T K (gCons tg tgs) (is ++ js) (d :: ds) g g2 := fun Hs H σ r vs s rvs Q q => by
  cases rvs with
  | cons a b => exact ⟨_, _, rfl, h1 Hs H σ r _ s a _ fun σ' s' w1 => h2 Hs H σ' r _ s' b Q fun σ2 s2 w2 => q σ2 s2 fun w hw => (w2 w fun i hi => hw i (List.mem_append_right _ hi)).trans (w1 w fun i hi => hw i (List.mem_append_left _ hi))⟩
theorem eg_tup {tgs : TGs} {n : Nat} {is : List Nat} (h : EvGs T K tgs is ds g g') (hn : ds.length = n) : EvG T K (gTup K n tgs) is (.tup ds) g g' := fun Hs H σ r v s rv Q q => by
  obtain ⟨a, xs, rfl, h1, h2⟩ := rv.tupI
  exact ⟨a, xs, rfl, s.ex.st h1, h2.length.trans hn, h Hs H σ r xs s h2 Q q⟩

/-! ### loops -/
theorem st_for {ti : TI} (h : EvI T K ti g r ds r1) (I : Nat → G → Rs → Prop) (h0 : I 0 g r1)
    (hs : ∀ i d g' r', ds[i]? = some d → I i g' r' → ∃ g2 is, EvG T K tg is d g' g2 ∧ StD T K E tu g2 r' { O with nx := I (i + 1), ct := I (i + 1), bk := O.nx }) (hd : ∀ g' r', I ds.length g' r' → O.nx g' r') :
    StD T K E (tFor ti tg tu) g r O := fun rf Hs H σ s En Gd =>
  h rf Hs H σ s _ fun J Hs1 H1 e s1 st => by
    refine ⟨fun i m σ' H' => m = ds.length - i ∧ i ≤ ds.length ∧ ∃ Hs' g' r', Ext T Hs1 Hs' ∧ SR T K Hs' H' σ' g' (r' ++ rf) ∧ I i g' r', ⟨_, rfl, Nat.zero_le _, Hs1, g, r1, Ext.refl _, s1, h0⟩, ?_⟩
    rintro i m σ' H' ⟨rfl, hi, Hs', g', r', e', s', w⟩
    obtain ⟨a1, a2⟩ := st i Hs' H' e' s'.ex
    by_cases hlt : i < ds.length
    · obtain ⟨b1, b2⟩ := a2 ds[i] (List.getElem?_eq_getElem hlt)
      refine Or.inr ⟨b1, fun σ2 H2 => ∃ Hs2 g2 r2, Ext T Hs1 Hs2 ∧ SR T K Hs2 H2 σ2 g2 (r2 ++ rf) ∧ I (i + 1) g2 r2, fun σ2 H2 ⟨Hs2, g2, r2, c1, c2, c3⟩ => ⟨ds.length - (i + 1), by omega, rfl, hlt, Hs2, g2, r2, c1, c2, c3⟩, fun v H2 y => ?_⟩
      obtain ⟨Hs2, c1, c2, c3⟩ := b2 v H2 y
      obtain ⟨g2, is, k1, k2⟩ := hs i _ g' r' (List.getElem?_eq_getElem hlt) w
      refine k1 Hs2 H2 σ' _ v (c3 _ _ _ s') c2 _ fun σ3 s3 _ => ?_
      have e2 : Ext T Hs Hs2 := (e.trans e').trans c1
      refine k2 rf Hs2 H2 σ3 s3 _ ⟨fun g3 r3 Hs3 H3 σ4 o e3 s4 => ⟨Hs3, g3, r3, (e'.trans c1).trans e3, s4, o⟩, (Gd.ext e2).rt, (Gd.ext e2).nx, fun g3 r3 Hs3 H3 σ4 o e3 s4 => ⟨Hs3, g3, r3, (e'.trans c1).trans e3, s4, o⟩, (Gd.ext e2).ex⟩
    · have he : i = ds.length := by omega
      subst he
      exact Or.inl ⟨a1 (Nat.le_refl _), Gd.nx _ _ _ _ _ (hd _ _ w) (e.trans e') s'⟩
theorem st_while (I : Nat → G → Rs → Prop) (m0 : Nat) (h0 : I m0 g r)
    (hs : ∀ m g r, I m g r → ∃ b r1, EvT T K t g r b r1 ∧ (b = true → StD T K E tu g r1 { O with nx := fun g r => ∃ m', m' < m ∧ I m' g r, ct := fun g r => ∃ m', m' < m ∧ I m' g r, bk := O.nx }) ∧ (b = false → O.nx g r1)) :
    StD T K E (tWhile t tu) g r O := fun rf Hs H σ s En Gd => by
  refine ⟨fun m σ' H' => ∃ Hs' g' r', Ext T Hs Hs' ∧ SR T K Hs' H' σ' g' (r' ++ rf) ∧ I m g' r', ⟨m0, Hs, g, r, Ext.refl _, s, h0⟩, ?_⟩
  rintro m σ' H' ⟨Hs', g', r', e', s', w⟩
  obtain ⟨b, r1, k1, k2, k3⟩ := hs m g' r' w
  refine k1 rf Hs' H' σ' s' _ fun Hs1 H1 e1 s1 => ?_
  have e2 : Ext T Hs Hs1 := e'.trans e1
  cases b with
  | true =>
    refine ⟨fun σ2 H2 => ∃ Hs2 g2 r2 m', m' < m ∧ Ext T Hs Hs2 ∧ SR T K Hs2 H2 σ2 g2 (r2 ++ rf) ∧ I m' g2 r2, fun σ2 H2 ⟨Hs2, g2, r2, m', c0, c1, c2, c3⟩ => ⟨m', c0, Hs2, g2, r2, c1, c2, c3⟩, ?_⟩
    exact k2 rfl rf Hs1 H1 σ' s1 _ ⟨fun g3 r3 Hs3 H3 σ4 ⟨m', o1, o2⟩ e3 s4 => ⟨Hs3, g3, r3, m', o1, e2.trans e3, s4, o2⟩, (Gd.ext e2).rt, (Gd.ext e2).nx, fun g3 r3 Hs3 H3 σ4 ⟨m', o1, o2⟩ e3 s4 => ⟨Hs3, g3, r3, m', o1, e2.trans e3, s4, o2⟩, (Gd.ext e2).ex⟩
  | false => exact Gd.nx _ _ _ _ _ (k3 rfl) e2 s1

/-! ### what is walked -/
theorem ei_tup {tl : TE} (h : Ev T K tl g r (.tup ds) r1) : EvI T K (iTup K tl) g r ds r1 := fun rf Hs H σ s R q => h rf Hs H σ s _ fun v Hs1 H1 e s1 rv => by
  obtain ⟨a, xs, rfl, h1, h2⟩ := rv.tupI
  refine ⟨a, rfl, ⟨xs, s1.ex.st h1⟩, q _ _ _ e s1 fun i Hs' H' e1 e2 => ⟨fun hl => ⟨xs, e2.st (e1.st h1), by rw [h2.length]; exact hl⟩, fun d hd => ?_⟩⟩
  obtain ⟨v, g1, g2⟩ := h2.get hd
  have hx : SqT K H' a xs := e2.st (e1.st h1)
  refine ⟨⟨xs, v, hx, g1⟩, fun v' H2 y => ?_⟩
  obtain ⟨e3, y⟩ := y
  subst e3
  have ev := y xs hx
  rw [g1] at ev
  cases ev
  exact ⟨Hs', Ext.refl _, DR.mono e1 d g2, fun σ g r s => s⟩
theorem ei_lst {tl : TE} (h : Ev T K tl g r (.lst ds) r1) : EvI T K (iList K tl) g r ds r1 := fun rf Hs H σ s R q => h rf Hs H σ s _ fun v Hs1 H1 e s1 rv => by
  cases rv with
  | @lst a xs _ h1 h2 =>
    have hq : ∀ {Hs' H' : Hp}, Ext T Hs1 Hs' → Ext T Hs' H' → SqL K H' a xs := fun e1 e2 => Evl.sq_of (e2.keep _ _ (e1.keep _ _ h1 (fun _ z => nomatch z)) (fun _ z => nomatch z))
    refine ⟨a, rfl, ⟨xs, hq (Ext.refl _) s1.ex⟩, q _ _ _ e s1 fun i Hs' H' e1 e2 => ⟨fun hl => ⟨xs, hq e1 e2, by rw [h2.length]; exact hl⟩, fun d hd => ?_⟩⟩
    obtain ⟨v, g1, g2⟩ := h2.get hd
    have hx : SqL K H' a xs := hq e1 e2
    refine ⟨⟨xs, v, hx, g1⟩, fun v' H2 y => ?_⟩
    obtain ⟨e3, y⟩ := y
    subst e3
    have ev := y xs hx
    rw [g1] at ev
    cases ev
    exact ⟨Hs', Ext.refl _, DR.mono e1 d g2, fun σ g r s => s⟩
def rgD (lo : Int) (n : Nat) : List D := (List.range n).map fun i => D.int (lo + (i : Nat))
theorem steps_rg {Hs : Hp} {lo : Int} {n : Nat} : Steps T K Hs (Itr lo n) (rgD lo n) := fun i Hs' H' e1 e2 => by
  refine ⟨fun hl => ?_, fun d hd => ?_⟩
  · unfold rgD at hl
    rw [List.length_map, List.length_range] at hl
    exact hl
  · unfold rgD at hd
    rw [List.getElem?_map] at hd
    cases q : (List.range n)[i]? with
    | none => rw [q] at hd; cases hd
    | some m =>
      rw [q] at hd
      obtain ⟨h1, h2⟩ := List.getElem?_eq_some_iff.mp q
      rw [List.getElem_range] at h2
      rw [List.length_range] at h1
      cases hd
      subst h2
      refine ⟨h1, fun v H2 y => ?_⟩
      obtain ⟨y1, y2⟩ := y
      subst y1
      subst y2
      exact ⟨Hs', Ext.refl _, .int _, fun σ g r s => s⟩
theorem ei_rg1 {n : Int} (h : EvA T K tas g r [.int n] r1) (hn : -100000 ≤ n ∧ n ≤ 100000) : EvI T K (iRng1 tas) g r (rgD 0 n.toNat) r1 := fun rf Hs H σ s R q => h rf Hs H σ s _ fun vs Hs1 H1 e s1 rvs => by
  obtain ⟨v, rfl, rv⟩ := rvs.one
  cases rv
  exact ⟨n, rfl, by omega, by omega, q _ _ _ e s1 steps_rg⟩
theorem ei_rg2 {m n : Int} (h : EvA T K tas g r [.int m, .int n] r1) (hm : -100000 ≤ m ∧ m ≤ 100000) (hn : -100000 ≤ n ∧ n ≤ 100000) : EvI T K (iRng2 tas) g r (rgD m (n - m).toNat) r1 := fun rf Hs H σ s R q => h rf Hs H σ s _ fun vs Hs1 H1 e s1 rvs => by
  obtain ⟨v, w, rfl, rv, rw'⟩ := rvs.two
  cases rv
  cases rw'
  exact ⟨m, n, rfl, ⟨by omega, by omega, by omega, by omega⟩, q _ _ _ e s1 steps_rg⟩
end
end DL
namespace DL
open PySem PySem.Spec PyProof.Rows L2
section
variable {T : Tb} {K : PySem.W.Frag} {Hs H Hs' H' : Hp} {σ : L2.St} {g : G} {r : Rs}
theorem SR.perm {r' : Rs} (s : SR T K Hs H σ g r) (p : r.Perm r') : SR T K Hs H σ g r' := by
  have f : (fps r).Perm (fps r') := p.flatMap_right _
  exact ⟨s.ex, s.wf, s.len, s.sl, fun x hx => s.rs x (p.mem_iff.mpr hx), fun q hq => s.fr q (f.mem_iff.mpr hq), f.nodup s.nd⟩
/-- the slots of one state, the rest of a later one -/
theorem SR.back {σ2 : L2.St} {g2 : G} {r2 : Rs} (s : SR T K Hs H σ g r) (e : Ext T Hs Hs') (s2 : SR T K Hs' H' σ2 g2 r2) : SR T K Hs' H' σ g r2 :=
  ⟨s2.ex, s2.wf, s.len, fun i d h => by
    obtain ⟨v, h1, h2⟩ := s.sl i d h
    exact ⟨v, h1, DR.mono e d h2⟩, s2.rs, s2.fr, s2.nd⟩
def wipeG (g : G) : List Nat → G
  | [] => g
  | v :: vs => (wipeG g vs).set v none
theorem SR.setN (s : SR T K Hs H σ g r) (i : Nat) : SR T K Hs H (σ.set i none) (g.set i none) r := by
  refine ⟨s.ex, s.wf, by rw [List.length_set, List.length_set]; exact s.len, fun j e hj => ?_, s.rs, s.fr, s.nd⟩
  by_cases hij : i = j
  · subst hij
    have hl : i < g.length := by
      have q := (List.getElem?_eq_some_iff.mp hj).1
      rw [List.length_set] at q
      exact q
    rw [List.getElem?_set_self hl] at hj
    cases hj
  · rw [List.getElem?_set_ne hij] at hj
    rw [List.getElem?_set_ne hij]
    exact s.sl j e hj
theorem SR.wipe (s : SR T K Hs H σ g r) : ∀ vs : List Nat, SR T K Hs H (L2.wipe σ vs) (wipeG g vs) r
  | [] => s
  | v :: vs => (SR.wipe s vs).setN v
end

section
variable {T : Tb} {K : PySem.W.Frag} {E : XK} {g g' : G} {r r' r1 r2 r3 : Rs} {ta tb tc te : TE} {t : TT} {x y z d : D} {ds es xs : List D} {tas : TA} {O O' : Out} {s1 s2 ts tu : TS} {i j k : Nat} {tg : TG}
/-! ### comprehensions -/
theorem en_lc {ti : TI} {vs : List Nat} {out : List D} {ro : Rs} (h : EvI T K ti g r ds r1) (I : Nat → List D → Rs → Prop) (h0 : I 0 [] r1) (hl : ds.length ≤ 100000)
    (hs : ∀ i d acc r', ds[i]? = some d → I i acc r' → ∃ g2 is, EvG T K tg is d (wipeG g vs) g2 ∧ (∀ i ∈ is, i ∈ vs) ∧ ∃ b r2, EvT T K t g2 r' b r2 ∧ (b = true → ∃ e r3, Ev T K te g2 r2 e r3 ∧ I (i + 1) (acc ++ [e]) r3) ∧ (b = false → I (i + 1) acc r2))
    (hd : ∀ acc r', I ds.length acc r' → acc = out ∧ r' = ro) : EvN T K (tLc ti tg t te vs) g r out ro := fun rf Hs H σ s Q q =>
  h rf Hs H σ s _ fun J Hs1 H1 e s1 st => fun D hD => by
    have s1' : SR T K Hs1 (upd H1 D (.lst [])) σ g (r1 ++ (rl D [] :: rf)) :=
      (s1.own (o := .lst []) hD True.intro (x := rl D []) rfl ⟨[], upd_same, .nil⟩).perm List.perm_middle.symm
    refine ⟨fun i m H' => m = ds.length - i ∧ i ≤ ds.length ∧ ∃ Hs' acc r', Ext T Hs1 Hs' ∧ SR T K Hs' H' σ g (r' ++ (rl D acc :: rf)) ∧ acc.length ≤ i ∧ I i acc r', ⟨_, rfl, Nat.zero_le _, Hs1, [], r1, Ext.refl _, s1', Nat.le_refl _, h0⟩, ?_⟩
    rintro i m H' ⟨rfl, hi, Hs', acc, r', e', s', la, w⟩
    obtain ⟨a1, a2⟩ := st i Hs' H' e' s'.ex
    by_cases hlt : i < ds.length
    · obtain ⟨b1, b2⟩ := a2 ds[i] (List.getElem?_eq_getElem hlt)
      refine Or.inr ⟨b1, fun H2 => ∃ Hs2 acc r2, Ext T Hs1 Hs2 ∧ SR T K Hs2 H2 σ g (r2 ++ (rl D acc :: rf)) ∧ acc.length ≤ i + 1 ∧ I (i + 1) acc r2, fun H2 ⟨Hs2, acc, r2, c1, c2, c3, c4⟩ => ⟨ds.length - (i + 1), by omega, rfl, hlt, Hs2, acc, r2, c1, c2, c3, c4⟩, fun v H2 y => ?_⟩
      obtain ⟨Hs2, c1, c2, c3⟩ := b2 v H2 y
      obtain ⟨g2, is, k1, k0, b, r2, k2, k3, k4⟩ := hs i _ acc r' (List.getElem?_eq_getElem hlt) w
      have sw := (c3 _ _ _ s').wipe vs
      refine k1 Hs2 H2 _ _ v sw c2 _ fun σ3 s3 hw => ⟨?_, ?_⟩
      · rw [hw vs k0]
        have ww : ∀ (u : List Nat) (τ : L2.St), wipe (wipe τ u) u = wipe τ u := by
          intro u τ
          apply List.ext_getElem?
          intro n
          by_cases hn : n ∈ u
          · have gN : ∀ (u : List Nat) (τ : L2.St), n ∈ u → (wipe τ u)[n]? = if n < τ.length then some none else none := by
              intro u
              induction u with
              | nil => intro τ h; exact nomatch h
              | cons a u ih =>
                intro τ h
                show ((wipe τ u).set a none)[n]? = _
                by_cases ha : a = n
                · subst ha
                  rw [List.getElem?_set]
                  simp only [wipe_length, if_true]
                · rw [List.getElem?_set_ne ha]
                  rcases List.mem_cons.mp h with z | z
                  · exact (ha z.symm).elim
                  · exact ih τ z
            rw [gN u _ hn, gN u _ hn, wipe_length]
          · rw [wipe_out hn]
        exact ww vs σ
      · refine k2 _ Hs2 H2 σ3 s3 _ fun Hs3 H3 e3 s4 => ?_
        cases b with
        | true =>
          obtain ⟨el, r3, f1, f2⟩ := k3 rfl
          refine f1 _ Hs3 H3 σ3 s4 _ fun v2 Hs4 H4 e4 s5 rv => ?_
          have hm : rl D acc ∈ r3 ++ (rl D acc :: rf) := by simp
          obtain ⟨ys, q1, q2⟩ := s5.rs _ hm
          have eA : Ext T Hs Hs4 := (((e.trans e').trans c1).trans e3).trans e4
          have hj : (r3 ++ (rl D acc :: rf))[r3.length]? = some (rl D acc) := by simp
          refine ⟨ys, q1, Evl.sz_lt (by rw [q2.length]; omega), Hs4, acc ++ [el], r3, ((e'.trans c1).trans e3).trans e4, ?_, by rw [List.length_append]; simp; omega, f2⟩
          have s6 := s5.mut (y := rl D (acc ++ [el])) (o := .lst (ys ++ [v2])) hj rfl rfl True.intro ⟨_, upd_same, q2.append (.cons rv .nil)⟩
          have er : (r3 ++ (rl D acc :: rf)).set r3.length (rl D (acc ++ [el])) = r3 ++ (rl D (acc ++ [el]) :: rf) := by
            rw [List.set_append_right _ _ (Nat.le_refl _)]
            simp
          rw [er] at s6
          exact s.back eA s6
        | false =>
          have eA : Ext T Hs Hs3 := ((e.trans e').trans c1).trans e3
          exact ⟨Hs3, acc, r2, (e'.trans c1).trans e3, s.back eA s4, by omega, k4 rfl⟩
    · have he : i = ds.length := by omega
      subst he
      obtain ⟨z1, z2⟩ := hd acc r' w
      subst z1
      subst z2
      exact Or.inl ⟨a1 (Nat.le_refl _), q D Hs' H' (e.trans e') (s'.perm List.perm_middle)⟩
theorem et_yes : EvT T K tYes g r true r := fun rf Hs H σ s Q q => q _ _ (Ext.refl _) s

/-! ### what a def promises -/
/-- the ends that are allowed -/
structure Oc where
  ok : D → Rs → Prop
  er : Addr → Rs → Prop
def Oc.one (d : D) (r : Rs) : Oc := ⟨fun x y => x = d ∧ y = r, fun _ _ => False⟩
def Oc.err (C : Addr) (r : Rs) : Oc := ⟨fun _ _ => False, fun x y => x = C ∧ y = r⟩
/-- R: the arguments, what is one's own, the ends -/
def spR (T : Tb) (K : PySem.W.Frag) (n : Nat) (R : List D → Rs → Oc → Prop) : Sp := fun vs H Q E => vs.length = n ∧ ∃ (ds : List D) (r rf : Rs) (Hs : Hp) (o : Oc), SR T K Hs H [] [] (r ++ rf) ∧ DRs K Hs vs ds ∧ R ds r o ∧
  (∀ d r' v Hs' H', o.ok d r' → Ext T Hs Hs' → SR T K Hs' H' [] [] (r' ++ rf) → DR K Hs' v d → Q v H') ∧
  (∀ C r' Hs' H', o.er C r' → Ext T Hs Hs' → SR T K Hs' H' [] [] (r' ++ rf) → E (.ref C) none H')
theorem spR_len {n : Nat} {R : List D → Rs → Oc → Prop} (vs : List V) (H : Hp) (Q : VK) (E : XK) (h : spR T K n R vs H Q E) : vs.length = n := h.1
theorem SR.nil {Hs H : Hp} {σ : L2.St} (s : SR T K Hs H σ g r) : SR T K Hs H [] [] r := ⟨s.ex, s.wf, rfl, fun i d h => by simp at h, s.rs, s.fr, s.nd⟩
/-- the call as it is: the ends that the caller is ready for -/
theorem call_any {n : Nat} {R : List D → Rs → Oc → Prop} {rc rx : Rs} {o : Oc} (h : EvA T K tas g r ds r1) (hp : r1.Perm (rc ++ rx)) (hn : ds.length = n) (hR : R ds rc o) {rf : Rs} {Hs H : Hp} {σ : L2.St} (s : SR T K Hs H σ g (r ++ rf)) {Q : VK}
    (q : ∀ d r' v Hs' H', o.ok d r' → Ext T Hs Hs' → SR T K Hs' H' σ g (r' ++ rx ++ rf) → DR K Hs' v d → Q v H') (qe : ∀ C r' Hs' H', o.er C r' → Ext T Hs Hs' → SR T K Hs' H' σ g (r' ++ rx ++ rf) → E (.ref C) none H') :
    tCall (spR T K n R) [] E tas σ H Q := h rf Hs H σ s _ fun vs Hs1 H1 e s1 rvs => by
  show spR T K n R (vs ++ []) H1 Q E
  rw [List.append_nil]
  refine ⟨by rw [rvs.length]; exact hn, ds, rc, rx ++ rf, Hs1, _, (s1.nil.perm (hp.append_right rf)).perm (by rw [List.append_assoc]), rvs, hR, fun d r' v Hs' H' eo e1 s2 rv => ?_, fun C r' Hs' H' eo e1 s2 => ?_⟩
  · refine q d r' v Hs' H' eo (e.trans e1) ?_ rv
    have := s.back (e.trans e1) s2
    rw [← List.append_assoc] at this
    exact this
  · refine qe C r' Hs' H' eo (e.trans e1) ?_
    have := s.back (e.trans e1) s2
    rw [← List.append_assoc] at this
    exact this
theorem ev_call {n : Nat} {R : List D → Rs → Oc → Prop} {rc rx rc' : Rs} (h : EvA T K tas g r ds r1) (hp : r1.Perm (rc ++ rx)) (hn : ds.length = n) (hR : R ds rc (.one d rc')) : Ev T K (tCall (spR T K n R) [] E tas) g r d (rc' ++ rx) := fun rf Hs H σ s Q q =>
  call_any h hp hn hR s (fun d' r' v Hs' H' eo e1 s2 rv => by
    obtain ⟨rfl, rfl⟩ := eo
    exact q v Hs' H' e1 s2 rv) fun _ _ _ _ eo => eo.elim
/-- nothing of one's own is touched -/
theorem ev_call0 {n : Nat} {R : List D → Rs → Oc → Prop} (h : EvA T K tas g r ds r1) (hn : ds.length = n) (hR : R ds [] (.one d [])) : Ev T K (tCall (spR T K n R) [] E tas) g r d r1 := ev_call (rc := []) (rx := r1) h (List.Perm.refl _) hn hR
theorem perm_pick {α : Type} : ∀ {l : List α} {j : Nat} {a : α}, l[j]? = some a → l.Perm (a :: l.eraseIdx j)
  | b :: l, 0, a, h => by
    simp at h
    subst h
    exact List.Perm.refl _
  | b :: l, j + 1, a, h => by
    simp at h
    exact ((perm_pick h).cons b).trans (List.Perm.swap a b _)
theorem perm_put {α : Type} : ∀ {l : List α} {j : Nat} {a b : α}, l[j]? = some a → (b :: l.eraseIdx j).Perm (l.set j b)
  | c :: l, 0, a, b, h => List.Perm.refl _
  | c :: l, j + 1, a, b, h => by
    simp at h
    exact (List.Perm.swap c b _).trans ((perm_put h).cons c)
/-- one resource turns -/
theorem ev_call1 {n : Nat} {R : List D → Rs → Oc → Prop} {a b : Res} (j : Nat) (h : EvA T K tas g r ds r1) (hj : r1[j]? = some a) (hn : ds.length = n) (hR : R ds [a] (.one d [b])) : Ev T K (tCall (spR T K n R) [] E tas) g r d (r1.set j b) := fun rf Hs H σ s Q q =>
  ev_call (rc := [a]) (rx := r1.eraseIdx j) h (perm_pick hj) hn hR rf Hs H σ s Q fun v Hs1 H1 e s1 rv => q v Hs1 H1 e (s1.perm ((perm_put hj).append_right rf)) rv
/-- the result is new, one's own -/
theorem en_call {n : Nat} {R : List D → Rs → Oc → Prop} (h : EvA T K tas g r ds r1) (hn : ds.length = n) (hR : R ds [] ⟨fun x y => ∃ p, x = .ref p ∧ y = [rl p es], fun _ _ => False⟩) : EvN T K (tCall (spR T K n R) [] E tas) g r es r1 := fun rf Hs H σ s Q q =>
  call_any (rc := []) (rx := r1) h (List.Perm.refl _) hn hR s (fun d' r' v Hs' H' ⟨p, e1, e2⟩ e s2 rv => by
    subst e1
    subst e2
    cases rv
    exact q p Hs' H' e s2) fun _ _ _ _ eo => eo.elim
theorem ex_call {n : Nat} {R : List D → Rs → Oc → Prop} {C : Addr} {rc rx rc' : Rs} (h : EvA T K tas g r ds r1) (hp : r1.Perm (rc ++ rx)) (hn : ds.length = n) (hR : R ds rc (.err C rc')) : EvX T K E (tCall (spR T K n R) [] E tas) g r C (rc' ++ rx) := fun rf Hs H σ s Q q =>
  call_any h hp hn hR s (fun _ _ _ _ _ eo => eo.elim) fun C' r' Hs' H' eo e1 s2 => by
    obtain ⟨rfl, rfl⟩ := eo
    exact q Hs' H' e1 s2
theorem ex_call0 {n : Nat} {R : List D → Rs → Oc → Prop} {C : Addr} (h : EvA T K tas g r ds r1) (hn : ds.length = n) (hR : R ds [] (.err C [])) : EvX T K E (tCall (spR T K n R) [] E tas) g r C r1 := ex_call (rc := []) (rx := r1) h (List.Perm.refl _) hn hR
/-- a body keeps the promise -/
theorem keeps {n : Nat} {R : List D → Rs → Oc → Prop} {N : List Str} {vs : List V} {H : Hp} {Q : VK} {tt : TS} (h : spR T K n R vs H Q E) (hN : n ≤ N.length)
    (hb : ∀ ds r o, ds.length = n → R ds r o → StD T K E tt (ds.map some ++ List.replicate (N.length - n) none) r { nx := fun _ r' => o.ok .non r', rt := fun d r' => o.ok d r', ex := fun C r' => o.er C r' }) :
    tt { nx := fun _ H' => Q .non H', rt := Q } (L2.start N vs) H := by
  obtain ⟨hn, ds, r, rf, Hs, o, s, rvs, hR, q1, q2⟩ := h
  have hl : ds.length = n := by rw [← rvs.length]; exact hn
  refine hb ds r o hl hR rf Hs H (L2.start N vs) ⟨s.ex, s.wf, ?_, fun i d hi => ?_, s.rs, s.fr, s.nd⟩ _ ⟨fun g r' Hs' H' σ o e s' => q1 _ _ _ _ _ o e s'.nil .non, fun d g r' v Hs' H' σ o e s' rv => q1 _ _ _ _ _ o e s'.nil rv, fun _ _ _ _ _ o => o.elim, fun _ _ _ _ _ o => o.elim, fun C g r' Hs' H' σ o e s' => q2 _ _ _ _ o e s'.nil⟩
  · unfold L2.start
    simp only [List.length_append, List.length_map, List.length_replicate]
    omega
  · by_cases hd : i < ds.length
    · rw [List.getElem?_append_left (by simpa using hd), List.getElem?_map] at hi
      cases q : ds[i]? with
      | none => rw [q] at hi; cases hi
      | some d' =>
        rw [q] at hi
        cases hi
        obtain ⟨v, h1, h2⟩ := rvs.get q
        refine ⟨v, ?_, h2⟩
        unfold L2.start
        rw [List.getElem?_append_left (by rw [List.length_map, rvs.length]; exact hd), List.getElem?_map, h1]
        rfl
    · rw [List.getElem?_append_right (by simpa using hd), List.getElem?_replicate] at hi
      split at hi <;> cases hi

/-! ### lists of one's own turn -/
theorem ty_own {p : Addr} {rf : Rs} {Hs H : Hp} {σ : L2.St} (s : SR T K Hs H σ g (r ++ rf)) (hj : r[j]? = some (rl p ds)) : tyV K "list" (.ref p) H := by
  obtain ⟨ys, h1, h2⟩ := s.rs _ (List.mem_append_left _ (List.mem_of_getElem? hj))
  exact Or.inl ⟨rfl, ys, Evl.sq_of h1⟩
/-- a method of a list of one's own that turns it: from what it holds to what it holds behind -/
theorem SR.turn {p : Addr} {rf : Rs} {Hs H : Hp} {σ : L2.St} {ys : List V} (s : SR T K Hs H σ g (r ++ rf)) (hj : r[j]? = some (rl p ds)) (h : DRs K Hs ys es) : SR T K Hs (upd H p (.lst ys)) σ g (r.set j (rl p es) ++ rf) := by
  have := s.mut (y := rl p es) (o := .lst ys) (get_app hj) rfl rfl True.intro ⟨_, upd_same, h⟩
  rw [set_app hj] at this
  exact this
theorem ev_append {p : Addr} {ds0 : List D} (j : Nat) (h0 : Ev T K ta g r (.ref p) r1) (hj0 : r1[j]? = some (rl p ds0)) (h : Ev T K te g r1 d r2) (hj : r2[j]? = some (rl p ds)) (hl : ds.length < 100000) : Ev T K (tBM K "list" rAppend ta (tCons te tNil)) g r .non (r2.set j (rl p (ds ++ [d]))) := fun rf Hs H σ s Q q =>
  h0 rf Hs H σ s _ fun v Hs1 H1 e1 s1 rv => by
    cases rv
    refine ⟨ty_own s1 hj0, h rf Hs1 H1 σ s1 _ fun v Hs2 H2 e2 s2 rv => ?_⟩
    obtain ⟨ys, h1, h2⟩ := s2.rs _ (List.mem_append_left _ (List.mem_of_getElem? hj))
    exact ⟨p, ys, v, rfl, rfl, h1, Evl.sz_lt (by rw [h2.length]; exact hl), q _ _ _ (e1.trans e2) (s2.turn hj (h2.append (.cons rv .nil))) .non⟩
theorem DRs.dropLast {Hs : Hp} : ∀ {vs : List V} {ds : List D}, DRs K Hs vs ds → DRs K Hs vs.dropLast ds.dropLast
  | _, _, .nil => .nil
  | _, _, .cons r .nil => .nil
  | _, _, .cons r (.cons a b) => .cons r (DRs.dropLast (.cons a b))
theorem ev_pop {p : Addr} (j : Nat) (h0 : Ev T K ta g r (.ref p) r1) (hj : r1[j]? = some (rl p ds)) (hd : ds[ds.length - 1]? = some d) : Ev T K (tBM0 K "list" rPop ta) g r d (r1.set j (rl p ds.dropLast)) := fun rf Hs H σ s Q q =>
  h0 rf Hs H σ s _ fun v Hs1 H1 e1 s1 rv => by
    cases rv
    obtain ⟨ys, h1, h2⟩ := s1.rs _ (List.mem_append_left _ (List.mem_of_getElem? hj))
    obtain ⟨w, q1, q2⟩ := h2.get hd
    exact ⟨ty_own s1 hj, p, ys, w, rfl, rfl, h1, by rw [h2.length]; exact q1, q _ _ _ e1 (s1.turn hj h2.dropLast) q2⟩
/-- xs[i] = e -/
theorem st_setL {p : Addr} (j : Nat) {m : Nat} {n : Int} (h : Ev T K te g r d r1) (h0 : Ev T K ta g r1 (.ref p) r2) (hi : Ev T K tb g r2 (.int n) r3) (hj : r3[j]? = some (rl p ds)) (hm : ixN ds.length n = some m) (h2 : O.nx g (r3.set j (rl p (ds.set m d)))) : StD T K E (tAsg te (gSub ta tb rSetL)) g r O := fun rf Hs H σ s En G =>
  h rf Hs H σ s _ fun v Hs1 H1 e1 s1 rv => h0 rf Hs1 H1 σ s1 _ fun u Hs2 H2 e2 s2 ru => hi rf Hs2 H2 σ s2 _ fun w Hs3 H3 e3 s3 rw' => by
    cases ru
    cases rw'
    obtain ⟨ys, q1, q2⟩ := s3.rs _ (List.mem_append_left _ (List.mem_of_getElem? hj))
    exact ⟨p, ys, n, m, rfl, rfl, q1, by rw [q2.length]; exact hm, G.nx _ _ _ _ _ h2 ((e1.trans e2).trans e3) (s3.turn hj (q2.set (DR.mono (e2.trans e3) d rv) m))⟩
theorem sq_setL {p : Addr} (j : Nat) {m : Nat} {n : Int} (h : Ev T K te g r d r1) (h0 : Ev T K ta g r1 (.ref p) r2) (hi : Ev T K tb g r2 (.int n) r3) (hj : r3[j]? = some (rl p ds)) (hm : ixN ds.length n = some m) (h2 : StD T K E ts g (r3.set j (rl p (ds.set m d))) O) : StD T K E (tSeq (tAsg te (gSub ta tb rSetL)) ts) g r O := fun rf Hs H σ s En G =>
  h rf Hs H σ s _ fun v Hs1 H1 e1 s1 rv => h0 rf Hs1 H1 σ s1 _ fun u Hs2 H2 e2 s2 ru => hi rf Hs2 H2 σ s2 _ fun w Hs3 H3 e3 s3 rw' => by
    cases ru
    cases rw'
    obtain ⟨ys, q1, q2⟩ := s3.rs _ (List.mem_append_left _ (List.mem_of_getElem? hj))
    exact ⟨p, ys, n, m, rfl, rfl, q1, by rw [q2.length]; exact hm, h2 rf _ _ _ (s3.turn hj (q2.set (DR.mono (e2.trans e3) d rv) m)) _ (G.ext ((e1.trans e2).trans e3))⟩

/-! ### lists and tuples joined, cut -/
theorem en_cat (h1 : Ev T K ta g r x r1) (h2 : Ev T K tb g r1 y r2) (v1 : Vl x r2 ds) (v2 : Vl y r2 es) (hl : ds.length + es.length ≤ 100000) : EvN T K (tOp rCat ta tb) g r (ds ++ es) r2 := fun rf Hs H σ s Q q =>
  h1 rf Hs H σ s _ fun u Hs1 H1 e1 s1 ru => h2 rf Hs1 H1 σ s1 _ fun v Hs2 H2 e2 s2 rv => by
    obtain ⟨a, xs, rfl, a1, a2⟩ := v1.at s2 (DR.mono e2 x ru)
    obtain ⟨b, zs, rfl, b1, b2⟩ := v2.at s2 rv
    exact ⟨a, b, xs, zs, rfl, rfl, a1, b1, by rw [a2.length, b2.length]; exact Evl.sz_of hl, fun p hp => q p Hs2 _ (e1.trans e2) (s2.own (o := .lst (xs ++ zs)) hp True.intro (x := rl p (ds ++ es)) rfl ⟨_, upd_same, a2.append b2⟩)⟩
theorem en_rep {n : Int} (h1 : Ev T K ta g r x r1) (h2 : Ev T K tb g r1 (.int n) r2) (v1 : Vl x r2 ds) (hn : 0 ≤ n ∧ n ≤ 100000) (hl : ds.length * n.toNat ≤ 100000) : EvN T K (tOp rRep ta tb) g r (List.replicate n.toNat ds).flatten r2 := fun rf Hs H σ s Q q =>
  h1 rf Hs H σ s _ fun u Hs1 H1 e1 s1 ru => h2 rf Hs1 H1 σ s1 _ fun v Hs2 H2 e2 s2 rv => by
    obtain ⟨a, xs, rfl, a1, a2⟩ := v1.at s2 (DR.mono e2 x ru)
    cases rv
    refine ⟨a, n, xs, rfl, rfl, a1, by omega, by omega, by rw [a2.length]; exact Evl.sz_of hl, fun p hp => q p Hs2 _ (e1.trans e2) (s2.own (o := .lst _) hp True.intro (x := rl p _) rfl ⟨_, upd_same, ?_⟩)⟩
    have rep : ∀ m : Nat, DRs K Hs2 (List.replicate m xs).flatten (List.replicate m ds).flatten := by
      intro m
      induction m with
      | zero => exact .nil
      | succ m ih =>
        rw [List.replicate_succ, List.replicate_succ, List.flatten_cons, List.flatten_cons]
        exact a2.append ih
    exact rep _
theorem od_catT (hl : ds.length + es.length ≤ 100000) : OpD T K (rCatA K) (.tup ds) (.tup es) g r (.tup (ds ++ es)) r := fun rf Hs H σ u v s ru rv Q q => by
  obtain ⟨a, xs, rfl, a1, a2⟩ := ru.tupI
  obtain ⟨b, zs, rfl, b1, b2⟩ := rv.tupI
  refine ⟨a, b, xs, zs, rfl, rfl, s.ex.st a1, s.ex.st b1, by rw [a2.length, b2.length]; exact Evl.sz_of hl, fun e => ?_, fun _ e => ?_, fun _ _ p hp => ?_⟩
  · subst e
    cases a2
    exact q _ _ _ (Ext.refl _) s (.tup b1 b2)
  · subst e
    cases b2
    rw [List.append_nil] at q
    exact q _ _ _ (Ext.refl _) s (.tup a1 a2)
  · obtain ⟨s2, e2⟩ := s.alloc (o := .tup (xs ++ zs)) hp True.intro
    exact q _ _ _ e2 s2 (.tup (Evl.st_of upd_same) (DRs.mono e2 _ (a2.append b2)))
/-- the items of xs[lo:hi] -/
def cutD (ds : List D) (lo hi : Option Int) : List D := (ds.drop (HT.sIx ds.length 0 lo)).take (HT.sIx ds.length ds.length hi - HT.sIx ds.length 0 lo)
theorem DRs.cut {Hs : Hp} {vs : List V} (h : DRs K Hs vs ds) (lo hi : Option Int) : DRs K Hs (cutV vs lo hi) (cutD ds lo hi) := by
  unfold cutV cutD
  rw [h.length]
  exact (h.drop _).take _
theorem eo_none : EvO T K tNoPart g r none r := fun rf Hs H σ s Q q => q _ _ (Ext.refl _) s
theorem eo_some {n : Int} (h : Ev T K te g r (.int n) r1) : EvO T K (tPart te) g r (some n) r1 := fun rf Hs H σ s Q q => h rf Hs H σ s _ fun v Hs1 H1 e s1 rv => by
  cases rv
  exact ⟨n, rfl, q _ _ e s1⟩
theorem ev_slT {tl th : TO} {lo hi : Option Int} (h : Ev T K te g r (.tup ds) r1) (h1 : EvO T K tl g r1 lo r2) (h2 : EvO T K th g r2 hi r3) : Ev T K (tSl (rSlA K) te tl th) g r (.tup (cutD ds lo hi)) r3 := fun rf Hs H σ s Q q =>
  h rf Hs H σ s _ fun v Hs1 H1 e1 s1 rv => h1 rf Hs1 H1 σ s1 _ fun Hs2 H2 e2 s2 => h2 rf Hs2 H2 σ s2 _ fun Hs3 H3 e3 s3 => by
    obtain ⟨a, xs, rfl, a1, a2⟩ := (DR.mono (e2.trans e3) _ rv).tupI
    refine ⟨a, xs, rfl, s3.ex.st a1, fun w => ?_, fun _ p hp => ?_⟩
    · have e : cutD ds lo hi = ds := by
        unfold cutD
        rw [a2.length] at w
        rw [w.1, w.2]
        simp
      rw [e] at q
      exact q _ _ _ ((e1.trans e2).trans e3) s3 (.tup a1 a2)
    · obtain ⟨s4, e4⟩ := s3.alloc (o := .tup (cutV xs lo hi)) hp True.intro
      exact q _ _ _ (((e1.trans e2).trans e3).trans e4) s4 (.tup (Evl.st_of upd_same) (DRs.mono e4 _ (a2.cut lo hi)))
theorem en_slL {tl th : TO} {lo hi : Option Int} (h : Ev T K te g r x r1) (h1 : EvO T K tl g r1 lo r2) (h2 : EvO T K th g r2 hi r3) (v : Vl x r3 ds) : EvN T K (tSl (rSlL K) te tl th) g r (cutD ds lo hi) r3 := fun rf Hs H σ s Q q =>
  h rf Hs H σ s _ fun w Hs1 H1 e1 s1 rv => h1 rf Hs1 H1 σ s1 _ fun Hs2 H2 e2 s2 => h2 rf Hs2 H2 σ s2 _ fun Hs3 H3 e3 s3 => by
    obtain ⟨a, xs, rfl, a1, a2⟩ := v.at s3 (DR.mono (e2.trans e3) _ rv)
    exact ⟨a, xs, rfl, Evl.sq_of a1, fun p hp => q p _ _ ((e1.trans e2).trans e3) (s3.own (o := .lst _) hp True.intro (x := rl p _) rfl ⟨_, upd_same, a2.cut lo hi⟩)⟩
end
end DL
namespace DL
open PySem PySem.Spec PyProof.Rows L2
/-! ### == of data -/
mutual
def toPy : D → PyData
  | .non => .none
  | .bl b => .bool b
  | .int i => .int i
  | .str x => .str x
  | .tup ds => .tuple (toPys ds)
  | .lst ds => .list (toPys ds)
  | _ => .none
def toPys : List D → List PyData
  | [] => []
  | d :: ds => toPy d :: toPys ds
end
mutual
/-- plain data -/
def pl : D → Bool
  | .non | .bl _ | .int _ => true
  | .str x => PyData.strOk x
  | .tup ds => pls ds
  | .lst ds => pls ds
  | _ => false
def pls : List D → Bool
  | [] => true
  | d :: ds => pl d && pls ds
end
mutual
/-- plain data without bools -/
def nb : D → Bool
  | .non | .int _ | .str _ => true
  | .tup ds => nbs ds
  | .lst ds => nbs ds
  | _ => false
def nbs : List D → Bool
  | [] => true
  | d :: ds => nb d && nbs ds
end
mutual
def dep : D → Nat
  | .tup ds => deps ds + 1
  | .lst ds => deps ds + 1
  | _ => 0
def deps : List D → Nat
  | [] => 0
  | d :: ds => max (dep d) (deps ds)
end
def eqD (a b : D) : Bool := PyData.eqv (toPy a) (toPy b)
mutual
theorem eqv_nb : ∀ (a b : D), nb a = true → nb b = true → (PyData.eqv (toPy a) (toPy b) = true ↔ a = b)
  | .non, b, _, hb => by cases b <;> simp [nb, toPy, PyData.eqv] at hb ⊢
  | .int i, b, _, hb => by cases b <;> simp [nb, toPy, PyData.eqv] at hb ⊢
  | .str i, b, _, hb => by cases b <;> simp [nb, toPy, PyData.eqv] at hb ⊢
  | .tup ds, b, ha, hb => by
    cases b with
    | tup es => simpa [toPy, PyData.eqv] using eqvs_nb ds es (by simpa [nb] using ha) (by simpa [nb] using hb)
    | _ => simp [nb, toPy, PyData.eqv] at hb ⊢
  | .lst ds, b, ha, hb => by
    cases b with
    | lst es => simpa [toPy, PyData.eqv] using eqvs_nb ds es (by simpa [nb] using ha) (by simpa [nb] using hb)
    | _ => simp [nb, toPy, PyData.eqv] at hb ⊢
  | .bl _, _, ha, _ => by simp [nb] at ha
  | .ins _ _ _, _, ha, _ => by simp [nb] at ha
  | .dk _ _, _, ha, _ => by simp [nb] at ha
  | .dt _ _, _, ha, _ => by simp [nb] at ha
  | .tux _, _, ha, _ => by simp [nb] at ha
  | .lam _, _, ha, _ => by simp [nb] at ha
  | .lsq _, _, ha, _ => by simp [nb] at ha
  | .ref _, _, ha, _ => by simp [nb] at ha
theorem eqvs_nb : ∀ (a b : List D), nbs a = true → nbs b = true → (PyData.eqvAll (toPys a) (toPys b) = true ↔ a = b)
  | [], [], _, _ => by simp [toPys, PyData.eqvAll]
  | [], b :: bs, _, _ => by simp [toPys, PyData.eqvAll]
  | a :: as, [], _, _ => by simp [toPys, PyData.eqvAll]
  | a :: as, b :: bs, ha, hb => by
    have h1 := eqv_nb a b (by simp [nbs] at ha; exact ha.1) (by simp [nbs] at hb; exact hb.1)
    have h2 := eqvs_nb as bs (by simp [nbs] at ha; exact ha.2) (by simp [nbs] at hb; exact hb.2)
    simp [toPys, PyData.eqvAll, h1, h2]
end
theorem eqD_iff {a b : D} (ha : nb a = true) (hb : nb b = true) : eqD a b = true ↔ a = b := eqv_nb a b ha hb
theorem eqD_no {a b : D} (ha : nb a = true) (hb : nb b = true) : eqD a b = false ↔ a ≠ b := by
  rw [← Bool.not_eq_true, eqD_iff ha hb]
mutual
theorem canLay_pl : ∀ d : D, pl d = true → (toPy d).canLay0 = true
  | .non, _ => rfl
  | .bl _, _ => rfl
  | .int _, _ => rfl
  | .str x, h => by simpa [toPy, PyData.canLay0, pl] using h
  | .tup ds, h => by simpa [toPy, PyData.canLay0] using canLays_pl ds (by simpa [pl] using h)
  | .lst ds, h => by simpa [toPy, PyData.canLay0] using canLays_pl ds (by simpa [pl] using h)
  | .ins _ _ _, h => by simp [pl] at h
  | .dk _ _, h => by simp [pl] at h
  | .dt _ _, h => by simp [pl] at h
  | .dr _ _, h => by simp [pl] at h
  | .tux _, h => by simp [pl] at h
  | .lam _, h => by simp [pl] at h
  | .lsq _, h => by simp [pl] at h
  | .ref _, h => by simp [pl] at h
theorem canLays_pl : ∀ ds : List D, pls ds = true → PyData.canLayAll0 (toPys ds) = true
  | [], _ => rfl
  | d :: ds, h => by
    simp [pls] at h
    simp [toPys, PyData.canLayAll0, canLay_pl d h.1, canLays_pl ds h.2]
end
mutual
theorem dep_eq : ∀ d : D, (toPy d).depth = dep d
  | .non => rfl
  | .bl _ => rfl
  | .int _ => rfl
  | .str _ => rfl
  | .tup ds => by simp [toPy, PyData.depth, dep, deps_eq ds]
  | .lst ds => by simp [toPy, PyData.depth, dep, deps_eq ds]
  | .ins _ _ _ => rfl
  | .dk _ _ => rfl
  | .dt _ _ => rfl
  | .dr _ _ => rfl
  | .tux _ => rfl
  | .lam _ => rfl
  | .lsq _ => rfl
  | .ref _ => rfl
theorem deps_eq : ∀ ds : List D, PyData.depthAll (toPys ds) = deps ds
  | [] => rfl
  | d :: ds => by simp [toPys, PyData.depthAll, deps, dep_eq d, deps_eq ds]
end
/-- plain and not deep -/
def sh (d : D) : Bool := pl d && decide (dep d ≤ 64)
theorem sh_shaped {d : D} (h : sh d = true) : SeqAt.shaped (toPy d) = true := by
  simp only [sh, Bool.and_eq_true, decide_eq_true_eq] at h
  unfold SeqAt.shaped
  rw [canLay_pl d h.1, dep_eq d]
  simpa using h.2
mutual
theorem DR.dp {T : Tb} {K : PySem.W.Frag} {Hs H : Hp} (e : Ext T Hs H) : ∀ (d : D) {v : V}, pl d = true → DR K Hs v d → Dp K H v (toPy d)
  | .non, _, _, h => by cases h; exact .non
  | .bl b, _, _, h => by cases h; exact .bl b
  | .int i, _, _, h => by cases h; exact .int i
  | .str i, _, _, h => by cases h; exact .str i
  | .tup ds, _, hp, h => by cases h with | tup h1 h2 => exact .tup (e.st h1) (DRs.dp e ds (by simpa [pl] using hp) h2)
  | .lst ds, _, hp, h => by cases h with | lst h1 h2 => exact .lst (Evl.sq_of (e.keep _ _ h1 (fun _ z => nomatch z))) (DRs.dp e ds (by simpa [pl] using hp) h2)
  | .ins _ _ _, _, h, _ => by simp [pl] at h
  | .dk _ _, _, h, _ => by simp [pl] at h
  | .dt _ _, _, h, _ => by simp [pl] at h
  | .tux _, _, h, _ => by simp [pl] at h
  | .lam _, _, h, _ => by simp [pl] at h
  | .lsq _, _, h, _ => by simp [pl] at h
  | .ref _, _, h, _ => by simp [pl] at h
theorem DRs.dp {T : Tb} {K : PySem.W.Frag} {Hs H : Hp} (e : Ext T Hs H) : ∀ (ds : List D) {vs : List V}, pls ds = true → DRs K Hs vs ds → DpAll K H vs (toPys ds)
  | [], _, _, h => by cases h; exact .nil
  | d :: ds, _, hp, h => by
    simp [pls] at hp
    cases h with
    | cons h1 h2 => exact .cons (DR.dp e d hp.1 h1) (DRs.dp e ds hp.2 h2)
end
section
variable {T : Tb} {K : PySem.W.Frag} {E : XK} {g g' : G} {r r' r1 r2 r3 : Rs} {ta tb tc te : TE} {t : TT} {x y z d : D} {ds es xs : List D} {tas : TA} {O O' : Out} {s1 s2 ts tu : TS} {i j k : Nat} {tg : TG}
/-- x is to be read as the data d: it is d, or a list of one's own -/
def Vd (x : D) (r : Rs) (d : D) : Prop := x = d ∨ ∃ ds, d = .lst ds ∧ Vl x r ds
theorem vd_f : Vd d r d := Or.inl rfl
theorem vd_o {p : Addr} (j : Nat) (h : r[j]? = some (rl p ds)) : Vd (.ref p) r (.lst ds) := Or.inr ⟨ds, rfl, vl_o j h⟩
theorem Vd.dp {rf : Rs} {Hs H : Hp} {σ : L2.St} {v : V} (h : Vd x r d) (s : SR T K Hs H σ g (r ++ rf)) (rv : DR K Hs v x) (hp : pl d = true) : Dp K H v (toPy d) := by
  rcases h with e | ⟨ds, e, h⟩
  · subst e
    exact DR.dp s.ex _ hp rv
  · subst e
    obtain ⟨a, xs, rfl, h1, h2⟩ := h.at s rv
    exact .lst (Evl.sq_of h1) (DRs.dp s.ex ds (by simpa [pl] using hp) h2)
theorem od_eqD {a b : D} (v1 : Vd x r a) (v2 : Vd y r b) (h1 : sh a = true) (h2 : sh b = true) : OpD T K (rEqD K) x y g r (.bl (eqD a b)) r := fun rf Hs H σ u v s ru rv Q q => by
  have p1 : pl a = true := by simp [sh] at h1; exact h1.1
  have p2 : pl b = true := by simp [sh] at h2; exact h2.1
  exact ⟨_, _, v1.dp s ru p1, v2.dp s rv p2, sh_shaped h1, sh_shaped h2, q _ _ _ (Ext.refl _) s (.bl _)⟩
theorem od_neD {a b : D} (v1 : Vd x r a) (v2 : Vd y r b) (h1 : sh a = true) (h2 : sh b = true) : OpD T K (rNeD K) x y g r (.bl (!eqD a b)) r := fun rf Hs H σ u v s ru rv Q q => by
  have p1 : pl a = true := by simp [sh] at h1; exact h1.1
  have p2 : pl b = true := by simp [sh] at h2; exact h2.1
  exact ⟨_, _, v1.dp s ru p1, v2.dp s rv p2, sh_shaped h1, sh_shaped h2, q _ _ _ (Ext.refl _) s (.bl _)⟩
theorem od_inD {a : D} (v1 : Vd x r a) (v2 : Vl y r ds) (h1 : sh a = true) (h2 : sh (.lst ds) = true) : OpD T K (rInD K) x y g r (.bl (ds.any fun z => eqD z a)) r := fun rf Hs H σ u v s ru rv Q q => by
  have p1 : pl a = true := by simp [sh] at h1; exact h1.1
  have p2 : pl (.lst ds) = true := by simp [sh] at h2; exact h2.1
  have hv : Vd y r (.lst ds) := Or.inr ⟨ds, rfl, v2⟩
  have e : ∀ l : List D, ((toPys l).any fun z => PyData.eqv z (toPy a)) = l.any fun z => eqD z a := by
    intro l
    induction l with
    | nil => rfl
    | cons b l ih =>
      show (PyData.eqv (toPy b) (toPy a) || (toPys l).any _) = (eqD b a || l.any _)
      rw [ih]
      rfl
  refine ⟨_, toPys ds, v1.dp s ru p1, hv.dp s rv p2, sh_shaped h1, sh_shaped h2, ?_⟩
  rw [e]
  exact q _ _ _ (Ext.refl _) s (.bl _)
theorem od_ninD {a : D} (v1 : Vd x r a) (v2 : Vl y r ds) (h1 : sh a = true) (h2 : sh (.lst ds) = true) : OpD T K (rNotInD K) x y g r (.bl (!ds.any fun z => eqD z a)) r := fun rf Hs H σ u v s ru rv Q q => by
  have p1 : pl a = true := by simp [sh] at h1; exact h1.1
  have p2 : pl (.lst ds) = true := by simp [sh] at h2; exact h2.1
  have hv : Vd y r (.lst ds) := Or.inr ⟨ds, rfl, v2⟩
  have e : ∀ l : List D, ((toPys l).any fun z => PyData.eqv z (toPy a)) = l.any fun z => eqD z a := by
    intro l
    induction l with
    | nil => rfl
    | cons b l ih =>
      show (PyData.eqv (toPy b) (toPy a) || (toPys l).any _) = (eqD b a || l.any _)
      rw [ih]
      rfl
  refine ⟨_, toPys ds, v1.dp s ru p1, hv.dp s rv p2, sh_shaped h1, sh_shaped h2, ?_⟩
  rw [e]
  exact q _ _ _ (Ext.refl _) s (.bl _)
/-! ### x in a list or tuple of scalars -/
def fv : D → Option V
  | .int i => some (.int i)
  | .str x => some (.str x)
  | _ => none
theorem flat_of {Hs : Hp} {v : V} (rv : DR K Hs v x) {u : V} (h : fv x = some u) : v = u ∧ flatV v = true := by
  cases rv <;> simp [fv] at h <;> subst h <;> exact ⟨rfl, rfl⟩
theorem flats_int {Hs : Hp} : ∀ {ns : List Int} {vs : List V}, DRs K Hs vs (ns.map D.int) → vs.all flatV = true := by
  intro ns vs h
  rw [DRs.ints_inv h]
  rw [List.all_map]
  exact List.all_eq_true.mpr fun _ _ => rfl
theorem flats_str {Hs : Hp} : ∀ {ns : List Str} {vs : List V}, DRs K Hs vs (ns.map D.str) → vs.all flatV = true := by
  intro ns vs h
  rw [DRs.strs_inv h]
  rw [List.all_map]
  exact List.all_eq_true.mpr fun _ _ => rfl
theorem inV_int (i : Int) (ns : List Int) : inV (.int i) (ns.map V.int) = decide (i ∈ ns) := by
  unfold inV
  rw [List.any_map, Bool.eq_iff_iff, List.any_eq_true, decide_eq_true_eq]
  constructor
  · rintro ⟨n, hn, h⟩
    have : n = i := by simpa [eqV] using h
    exact this ▸ hn
  · intro h
    exact ⟨i, h, by simp [eqV]⟩
theorem inV_str (i : Str) (ns : List Str) : inV (.str i) (ns.map V.str) = decide (i ∈ ns) := by
  unfold inV
  rw [List.any_map, Bool.eq_iff_iff, List.any_eq_true, decide_eq_true_eq]
  constructor
  · rintro ⟨n, hn, h⟩
    have : n = i := by simpa [eqV] using h
    exact this ▸ hn
  · intro h
    exact ⟨i, h, by simp [eqV]⟩
theorem od_inI {m : Int} {ns : List Int} (h : Vs y r (ns.map D.int)) : OpD T K (rIn K false) (.int m) y g r (.bl (decide (m ∈ ns))) r := fun rf Hs H σ u v s ru rv Q q => by
  cases ru
  obtain ⟨a, xs, rfl, h1, h2⟩ := h.at s rv
  have e := DRs.ints_inv h2
  subst e
  refine ⟨a, _, rfl, h1, rfl, flats_int h2, ?_⟩
  show Q (.bl (inV (.int m) (ns.map V.int))) H
  rw [inV_int]
  exact q _ _ _ (Ext.refl _) s (.bl _)
theorem od_ninI {m : Int} {ns : List Int} (h : Vs y r (ns.map D.int)) : OpD T K (rIn K true) (.int m) y g r (.bl (decide (m ∉ ns))) r := fun rf Hs H σ u v s ru rv Q q => by
  cases ru
  obtain ⟨a, xs, rfl, h1, h2⟩ := h.at s rv
  have e := DRs.ints_inv h2
  subst e
  refine ⟨a, _, rfl, h1, rfl, flats_int h2, ?_⟩
  show Q (.bl (!inV (.int m) (ns.map V.int))) H
  rw [inV_int, ← decide_not]
  exact q _ _ _ (Ext.refl _) s (.bl _)
theorem od_inSt {m : Str} {ns : List Str} (h : Vs y r (ns.map D.str)) : OpD T K (rIn K false) (.str m) y g r (.bl (decide (m ∈ ns))) r := fun rf Hs H σ u v s ru rv Q q => by
  cases ru
  obtain ⟨a, xs, rfl, h1, h2⟩ := h.at s rv
  have e := DRs.strs_inv h2
  subst e
  refine ⟨a, _, rfl, h1, rfl, flats_str h2, ?_⟩
  show Q (.bl (inV (.str m) (ns.map V.str))) H
  rw [inV_str]
  exact q _ _ _ (Ext.refl _) s (.bl _)
theorem od_ninSt {m : Str} {ns : List Str} (h : Vs y r (ns.map D.str)) : OpD T K (rIn K true) (.str m) y g r (.bl (decide (m ∉ ns))) r := fun rf Hs H σ u v s ru rv Q q => by
  cases ru
  obtain ⟨a, xs, rfl, h1, h2⟩ := h.at s rv
  have e := DRs.strs_inv h2
  subst e
  refine ⟨a, _, rfl, h1, rfl, flats_str h2, ?_⟩
  show Q (.bl (!inV (.str m) (ns.map V.str))) H
  rw [inV_str, ← decide_not]
  exact q _ _ _ (Ext.refl _) s (.bl _)

/-! ### tuple(..), list(..), range(..) -/
theorem ev_tupOf (h : Ev T K ta g r x r1) (hv : Vs x r1 ds) : Ev T K (tThen ta (kTup K)) g r (.tup ds) r1 := fun rf Hs H σ s Q q => h rf Hs H σ s _ fun v Hs1 H1 e s1 ru => by
  rcases hv with e2 | hv
  · subst e2
    obtain ⟨a, xs, rfl, h1, h2⟩ := ru.tupI
    exact Or.inr ⟨a, xs, rfl, s1.ex.st h1, q _ _ _ e s1 (.tup h1 h2)⟩
  · obtain ⟨a, xs, rfl, h1, h2⟩ := hv.at s1 ru
    refine Or.inl ⟨a, xs, rfl, Evl.sq_of h1, fun p hp => ?_⟩
    obtain ⟨s2, e2⟩ := s1.alloc (o := .tup xs) hp True.intro
    exact q _ _ _ (e.trans e2) s2 (.tup (Evl.st_of upd_same) (DRs.mono e2 _ h2))
def EvR (T : Tb) (K : PySem.W.Frag) (tr : L2.St → Hp → (Int → Int → Hp → Prop) → Prop) (g : G) (r : Rs) (a b : Int) (r' : Rs) : Prop := ∀ (rf : Rs) (Hs H : Hp) (σ : L2.St), SR T K Hs H σ g (r ++ rf) → ∀ Q : Int → Int → Hp → Prop,
  (∀ Hs' H', Ext T Hs Hs' → SR T K Hs' H' σ g (r' ++ rf) → Q a b H') → tr σ H Q
theorem er_1 {n : Int} (h : Ev T K ta g r (.int n) r1) : EvR T K (tRg1 ta) g r 0 n r1 := fun rf Hs H σ s Q q => h rf Hs H σ s _ fun v Hs1 H1 e s1 ru => by
  cases ru
  exact ⟨n, rfl, q _ _ e s1⟩
theorem er_2 {m n : Int} (h : Ev T K ta g r (.int m) r1) (h2 : Ev T K tb g r1 (.int n) r2) : EvR T K (tRg2 ta tb) g r m n r2 := fun rf Hs H σ s Q q => h rf Hs H σ s _ fun v Hs1 H1 e s1 ru => h2 rf Hs1 H1 σ s1 _ fun w Hs2 H2 e2 s2 rw' => by
  cases ru
  cases rw'
  exact ⟨m, n, rfl, rfl, q _ _ (e.trans e2) s2⟩
theorem DRs.rg {Hs : Hp} (a b : Int) : DRs K Hs (rgV a b) (rgD a (b - a).toNat) := by
  unfold rgV rgD
  have f : ∀ l : List Nat, DRs K Hs (l.map fun i => V.int (a + (i : Nat))) (l.map fun i => D.int (a + (i : Nat))) := by
    intro l
    induction l with
    | nil => exact .nil
    | cons i l ih => exact .cons (.int _) ih
  exact f _
theorem ev_tupRg {tr : L2.St → Hp → (Int → Int → Hp → Prop) → Prop} {a b : Int} (h : EvR T K tr g r a b r1) (ha : -100000 ≤ a ∧ a ≤ 100000) (hb : -100000 ≤ b ∧ b ≤ 100000) : Ev T K (tTupRg tr) g r (.tup (rgD a (b - a).toNat)) r1 := fun rf Hs H σ s Q q => h rf Hs H σ s _ fun Hs1 H1 e s1 => by
  refine ⟨⟨by omega, by omega, by omega, by omega, by omega⟩, fun p hp => ?_⟩
  obtain ⟨s2, e2⟩ := s1.alloc (o := .tup (rgV a b)) hp True.intro
  exact q _ _ _ (e.trans e2) s2 (.tup (Evl.st_of upd_same) (DRs.rg a b))
theorem en_lstRg {tr : L2.St → Hp → (Int → Int → Hp → Prop) → Prop} {a b : Int} (h : EvR T K tr g r a b r1) (ha : -100000 ≤ a ∧ a ≤ 100000) (hb : -100000 ≤ b ∧ b ≤ 100000) : EvN T K (tLstRg tr) g r (rgD a (b - a).toNat) r1 := fun rf Hs H σ s Q q => h rf Hs H σ s _ fun Hs1 H1 e s1 => by
  refine ⟨⟨by omega, by omega, by omega, by omega, by omega⟩, fun p hp => q p Hs1 _ e (s1.own (o := .lst _) hp True.intro (x := rl p _) rfl ⟨_, upd_same, DRs.rg a b⟩)⟩
end
end DL
/-! rules that the layer lacks -/
namespace SrtO
open PySem PyProof.Rows Srt
section
variable {prog : Program} {w : World} {A : Around} {E : Value → Shared → Prop} {s : Shared}
/-- sorted(x), x anything that is collected -/
theorem sorted_col {x : Value} {vs : List Value} {ltv : Value → Value → Bool} {Q : Value → Shared → Prop} (O : Swo ltv) (hz : vs.length ≤ sizeLine)
    (hc : ∀ (Q' : List Value → Shared → Prop), (∀ h' tk, (∀ b o, s.heap.get? b = some o → h'.get? b = some o) → Q' vs { s with heap := h', toks := tk }) → wpAny (model prog w) A.in1 (collect x) Q' E s)
    (hS : 2 ≤ vs.length → ∀ (h₁ : Heap) (tk : Nat) (a : Addr), h₁.get? a = some (seqObj "list" vs.toArray 0) → (∀ b o, s.heap.get? b = some o → b ≠ a ∧ h₁.get? b = some o) → SortableO prog w A.in1.in1 { s with heap := h₁, toks := tk } a vs ltv)
    (h : ∀ (out : List Value) (h0 h' : Heap) (tk : Nat), Srtd ltv out → Stb ltv out vs → (∀ b o, s.heap.get? b = some o → h0.get? b = some o) → (∀ b o, h0.get? b = some o → h'.get? b = some o) → (∃ n, h'.get? h0.objs.size = some (seqObj "list" out.toArray n)) → Q (.ref h0.objs.size) { s with heap := h', toks := tk }) :
    wpAny (model prog w) A (call (.builtin "sorted") [x]) Q E s := by
  refine Calls.call_function_entry kind_sorted plain_sorted entry_sorted (args_sorted1 _) ?_
  unfold Builtin.«sorted»
  refine wpAny_bind (m := checkCount "sorted" 1 1 _) (wpAny_pure ?_)
  refine wpAny_bind (hc _ fun h0 tk k0 => ?_)
  refine wpAny_bind (wpAny_newList ?_ hz)
  have hoL : (h0.push (seqObj "list" vs.toArray 0)).get? h0.objs.size = some (seqObj "list" vs.toArray 0) := Heap.get?_push_size _ rfl
  have keep : ∀ b o, s.heap.get? b = some o → b ≠ h0.objs.size ∧ (h0.push (seqObj "list" vs.toArray 0)).get? b = some o := fun b o q =>
    ⟨Nat.ne_of_lt (Heap.lt_size (k0 b o q)), Heap.get?_push_of_some _ (k0 b o q)⟩
  show wpAny _ _ _ _ _ { s with heap := h0.push (seqObj "list" vs.toArray 0), toks := tk }
  refine wpAny_bind (wpAny_holding (wpAny_call_entry slot_list_sort ⟨_, hoL, rfl⟩ entry_list_sort (list_sort_ord O hoL hz (fun h2 => hS h2 _ _ _ hoL keep) fun out hs hb => ⟨_, rfl, ?_⟩) (args_list_sort _)))
  refine wpAny_pure ⟨_, rfl, h out h0 _ _ hs hb k0 (fun b o q => ?_) (sortedHeap_at (vs := vs) (out := out.toArray) hoL)⟩
  have hne : b ≠ h0.objs.size := Nat.ne_of_lt (Heap.lt_size q)
  rw [sortedHeap_old hne (Nat.lt_of_lt_of_le (Heap.lt_size q) (by rw [Heap.size_push]; exact Nat.le_succ _))]
  exact Heap.get?_push_of_some _ q
end
end SrtO
namespace L2
open PySem PySem.Spec PyProof.Rows
/-- sorted(xs), xs a list or a tuple of ints -/
def rSortedX (K : PySem.W.Frag) : List V → Hp → VK → Prop := fun vs H Q => ∃ (a : Addr) (ns : List Int), vs = [V.ref a] ∧ (SqL K H a (ns.map V.int) ∨ SqT K H a (ns.map V.int)) ∧
  ∀ (ns' : List Int) (p : Addr), ns'.Perm ns → ns'.Pairwise (· ≤ ·) → H p = none → Q (.ref p) (upd H p (.lst (ns'.map V.int)))
section
variable {X : Cx}
/-- what is read as a sequence, in the heap -/
theorem Inv.sq {pins : List (Addr × Obj)} {σ : St} {H : Hp} {s : Shared} {a : Addr} {xs : List V} (I : Inv X pins σ H s) (h : SqL X.K H a xs ∨ SqT X.K H a xs) :
    ∃ (T : String) (its : List Value) (o : Obj) (n : Nat), (T = "list" ∨ T = "tuple") ∧ Vals xs its ∧ s.heap.get? a = some o ∧ o.cls = .type T ∧ o.data = .seq its.toArray n ∧ xs.length ≤ sizeLine := by
  rcases h with h | h
  · obtain ⟨its, r, hl, hz⟩ := I.list h
    obtain ⟨o, h1, h2, n, h3⟩ := hl.isList
    exact ⟨"list", its, o, n, Or.inl rfl, r, h1, h2, h3, hz⟩
  · obtain ⟨its, r, hl, hz⟩ := I.tuple h
    obtain ⟨o, h1, h2, n, h3⟩ := hl
    exact ⟨"tuple", its, o, n, Or.inr rfl, r, h1, h2, h3, hz⟩
theorem cr_sortedX : CallR X (.builtin "sorted") (rSortedX X.K) := by
  intro pins s σ H vs us Q I r h
  obtain ⟨a, ns, rfl, hs, q⟩ := h
  obtain ⟨T, its, o, n, hT, rv, ho, hc, hd, hz⟩ := I.sq hs
  rw [Vals.ref1 r]
  have hi := rv.ints
  refine SrtO.sorted_col SrtO.swo_int (vs := its) (by rw [← rv.length]; exact hz) (fun Q' hq => ?_) (fun h2 h₁ tk a' _ _ => SrtO.ints_sortable hi h2) fun out h0 h' tk h1 h2 k0 k1 hat => ?_
  · refine wpAny_collect_seq a hT ho hc hd (fun h' hk => ?_) (by rw [List.size_toArray, ← rv.length]; exact hz)
    have := hq h' s.toks hk
    rw [List.toList_toArray]
    exact this
  · obtain ⟨j1, j2, j3⟩ := SrtO.ints_out hi h1 h2
    obtain ⟨ep, he'⟩ := hat
    have hlen : ((out.map SrtO.iv).map V.int).length ≤ sizeLine := by
      rw [List.length_map, j2.length_eq]
      rw [List.length_map] at hz
      exact hz
    have I1 : Inv X pins σ H { s with heap := h0, toks := tk } := I.kept k0
    exact ⟨.ref _, upd H h0.objs.size (.lst ((out.map SrtO.iv).map V.int)), I1.laid (t' := tk) k1 (Nat.le_refl _) ⟨hlen, out, ep, vals_of_ints j1, he'⟩, rfl, q _ _ j2 j3 (I1.hok.fresh (Nat.le_refl _))⟩
end
end L2
namespace DL
open PySem PySem.Spec PyProof.Rows L2
section
variable {T : Tb} {K : PySem.W.Frag} {E : XK} {g : G} {r r1 r2 : Rs} {ta tb te : TE} {x y d : D} {ds es : List D} {tas : TA}
def srt (ns : List Int) : List Int := ns.mergeSort (fun a b => decide (a ≤ b))
theorem srt_perm (ns : List Int) : (srt ns).Perm ns := List.mergeSort_perm ns _
theorem srt_sorted (ns : List Int) : (srt ns).Pairwise (· ≤ ·) := by
  have h := List.pairwise_mergeSort (le := fun a b : Int => decide (a ≤ b)) (fun a b c h1 h2 => by simp at *; omega) (fun a b => by simp; omega) ns
  exact h.imp fun h => by simpa using h
theorem srt_uniq {ns ms : List Int} (p : ms.Perm ns) (s : ms.Pairwise (· ≤ ·)) : ms = srt ns :=
  List.Perm.eq_of_pairwise (le := (· ≤ ·)) (fun a b _ _ h1 h2 => Int.le_antisymm h1 h2) s (srt_sorted ns) (p.trans (srt_perm ns).symm)
theorem en_sorted {ns : List Int} (h : EvA T K tas g r [x] r1) (hv : Vs x r1 (ns.map D.int)) : EvN T K (tCB (rSortedX K) tas) g r ((srt ns).map D.int) r1 := fun rf Hs H σ s Q q => h rf Hs H σ s _ fun vs Hs1 H1 e s1 rvs => by
  obtain ⟨v, rfl, rv⟩ := rvs.one
  obtain ⟨a, xs, rfl, h1, h2⟩ := hv.at s1 rv
  have e2 := DRs.ints_inv h2
  subst e2
  refine ⟨a, ns, rfl, h1, fun ns' p hp hs hn => ?_⟩
  have e3 := srt_uniq hp hs
  subst e3
  exact q p Hs1 _ e (s1.own (o := .lst _) hn True.intro (x := rl p _) rfl ⟨_, upd_same, DRs.ints _⟩)
end
end DL
namespace DL
open PySem PySem.Spec PyProof.Rows L2 TL
abbrev rowD (l : List Int) : D := .tup (l.map D.int)
section
variable {T : Tb} {K : PySem.W.Frag} {E : XK} {g g' : G} {r r' r1 r2 r3 : Rs} {ta tb tc te : TE} {t : TT} {x y z d : D} {ds es xs : List D} {tas : TA} {O O' : Out} {s1 s2 ts tu : TS} {i j k : Nat} {tg : TG}
/-! ### items of rows -/
theorem atI_nat' {α : Type} {xs : List α} {i : Int} {v : α} (h0 : 0 ≤ i) (h1 : i < xs.length) (h : xs[i.toNat]? = some v) : atI xs i = some v := atI_of h0 h
theorem od_ixRow {l : List Int} {i : Int} (h0 : 0 ≤ i) (h1 : i < l.length) : OpD T K (rIxT K) (rowD l) (.int i) g r (.int (l.getD i.toNat 0)) r :=
  od_ixT (atI_of h0 (by
    have h : i.toNat < l.length := by omega
    rw [List.getElem?_map, List.getElem?_eq_getElem h]
    simp [List.getD_eq_getElem?_getD, List.getElem?_eq_getElem h]))
theorem od_ixTup {l : List D} {i : Int} (h0 : 0 ≤ i) (h1 : i < l.length) : OpD T K (rIxT K) (.tup l) (.int i) g r (l.getD i.toNat .non) r :=
  od_ixT (atI_of h0 (by
    have h : i.toNat < l.length := by omega
    rw [List.getElem?_eq_getElem h]
    simp [List.getD_eq_getElem?_getD, List.getElem?_eq_getElem h]))
theorem od_ixLI {l : List Int} {i : Int} (v : Vl x r (l.map D.int)) (h0 : 0 ≤ i) (h1 : i < l.length) : OpD T K (rIxL K) x (.int i) g r (.int (l.getD i.toNat 0)) r :=
  od_ixL v (atI_of h0 (by
    have h : i.toNat < l.length := by omega
    rw [List.getElem?_map, List.getElem?_eq_getElem h]
    simp [List.getD_eq_getElem?_getD, List.getElem?_eq_getElem h]))
theorem od_ixLD {l : List D} {i : Int} (v : Vl x r l) (h0 : 0 ≤ i) (h1 : i < l.length) : OpD T K (rIxL K) x (.int i) g r (l.getD i.toNat .non) r :=
  od_ixL v (atI_of h0 (by
    have h : i.toNat < l.length := by omega
    rw [List.getElem?_eq_getElem h]
    simp [List.getD_eq_getElem?_getD, List.getElem?_eq_getElem h]))
/-- a sign -/
abbrev sgn (c : Nat) : D := .str ⟨#[c]⟩
theorem od_ixStr {s : Str} {i : Int} (hl : s.length ≤ 100000) (h0 : 0 ≤ i) (h1 : i < s.cps.toList.length) : OpD T K rIxS (.str s) (.int i) g r (sgn (s.cps.toList.getD i.toNat 0)) r :=
  od_ixS hl (atI_of h0 (by
    have h : i.toNat < s.cps.toList.length := by omega
    rw [List.getElem?_eq_getElem h]
    simp [List.getD_eq_getElem?_getD, List.getElem?_eq_getElem h]))
/-! ### built-ins -/
theorem ca_abs {n : Int} : CaD T K (fun xs H Q => ∃ i, xs = [V.int i] ∧ Q (.int (if i < 0 then -i else i)) H) [.int n] g r (.int (if n < 0 then -n else n)) r := fun rf Hs H σ us s ru Q q => by
  obtain ⟨v, rfl, rv⟩ := ru.one
  cases rv
  exact ⟨n, rfl, q _ _ _ (Ext.refl _) s (.int _)⟩
theorem ca_intI {n : Int} : CaD T K (fun xs H Q => (∃ i, xs = [V.int i] ∧ Q (.int i) H) ∨ ∃ k, xs = [V.bl k] ∧ Q (.int (if k then 1 else 0)) H) [.int n] g r (.int n) r := fun rf Hs H σ us s ru Q q => by
  obtain ⟨v, rfl, rv⟩ := ru.one
  cases rv
  exact Or.inl ⟨n, rfl, q _ _ _ (Ext.refl _) s (.int _)⟩
theorem ca_intB {b : Bool} : CaD T K (fun xs H Q => (∃ i, xs = [V.int i] ∧ Q (.int i) H) ∨ ∃ k, xs = [V.bl k] ∧ Q (.int (if k then 1 else 0)) H) [.bl b] g r (.int (if b then 1 else 0)) r := fun rf Hs H σ us s ru Q q => by
  obtain ⟨v, rfl, rv⟩ := ru.one
  cases rv
  exact Or.inr ⟨b, rfl, q _ _ _ (Ext.refl _) s (.int _)⟩
theorem ca_sum {ns : List Int} (h : Vl x r (ns.map D.int)) : CaD T K (rSum K) [x] g r (.int ns.sum) r := fun rf Hs H σ us s ru Q q => by
  obtain ⟨v, rfl, rv⟩ := ru.one
  obtain ⟨a, xs, rfl, h1, h2⟩ := h.at s rv
  have e := DRs.ints_inv h2
  subst e
  exact ⟨a, ns, rfl, Evl.sq_of h1, q _ _ _ (Ext.refl _) s (.int _)⟩
theorem en_listOf (h : EvA T K tas g r [x] r1) (hv : Vs x r1 ds) : EvN T K (tCB (fun xs H Q => ∃ p ys, xs = [.ref p] ∧ (SqL K H p ys ∨ SqT K H p ys) ∧ ∀ l, H l = none → Q (.ref l) (upd H l (.lst ys))) tas) g r ds r1 := fun rf Hs H σ s Q q => h rf Hs H σ s _ fun vs Hs1 H1 e s1 rvs => by
  obtain ⟨v, rfl, rv⟩ := rvs.one
  obtain ⟨a, xs, rfl, h1, h2⟩ := hv.at s1 rv
  exact ⟨a, xs, rfl, h1, fun p hp => q p Hs1 _ e (s1.own (o := .lst xs) hp True.intro (x := rl p ds) rfl ⟨xs, upd_same, h2⟩)⟩
theorem joinL_signs : ∀ cs : List Nat, joinL [] (cs.map fun c => [c]) = cs
  | [] => rfl
  | [c] => rfl
  | c :: d :: r => by
    have ih := joinL_signs (d :: r)
    show [c] ++ ([] ++ joinL [] ((d :: r).map fun c => [c])) = c :: d :: r
    rw [ih]
    rfl
theorem str_ext {a b : Str} (h : a.cps.toList = b.cps.toList) : a = b := by
  cases a
  cases b
  congr
  exact Array.toList_inj.mp h
theorem join_signs (cs : List Nat) : Txt.join ⟨#[]⟩ (cs.map fun c => (⟨#[c]⟩ : Str)) = ⟨cs.toArray⟩ := by
  refine str_ext ?_
  rw [join_eq]
  have h : tl (Str.join ⟨#[]⟩ (cs.map fun c => (⟨#[c]⟩ : Str))) = joinL [] ((cs.map fun c => (⟨#[c]⟩ : Str)).map tl) := tl_join _ _
  have e : (cs.map fun c => (⟨#[c]⟩ : Str)).map tl = cs.map fun c => [c] := by
    rw [List.map_map]
    rfl
  rw [e, joinL_signs] at h
  first
    | exact h
    | simpa using h
/-- "".join of signs -/
theorem ev_joinS {cs : List Nat} (h : Ev T K te g r x r1) (hv : Vs x r1 (cs.map sgn)) (hl : cs.length ≤ 100000) : Ev T K (tM1 (fun x xs H Q => ∃ a p, ∃ ys : List Str, x = .str a ∧ xs = [.ref p] ∧ (SqL K H p (ys.map V.str) ∨ SqT K H p (ys.map V.str)) ∧
      (ys.map (·.length)).sum + ys.length * a.length ≤ 16777216 ∧ Q (.str (Txt.join a ys)) H) (tC (.str ⟨#[]⟩)) te) g r (.str ⟨cs.toArray⟩) r1 := fun rf Hs H σ s Q q => by
  refine ⟨⟨_, rfl⟩, h rf Hs H σ s _ fun v Hs1 H1 e s1 rv => ?_⟩
  obtain ⟨a, xs, rfl, h1, h2⟩ := hv.at s1 rv
  have e1 : cs.map sgn = (cs.map fun c => (⟨#[c]⟩ : Str)).map D.str := by
    rw [List.map_map]
    rfl
  rw [e1] at h2
  have e2 := DRs.strs_inv h2
  subst e2
  refine ⟨⟨#[]⟩, a, _, rfl, rfl, h1, ?_, ?_⟩
  · have e3 : ((cs.map fun c => (⟨#[c]⟩ : Str)).map (·.length)).sum = cs.length := by
      clear h2 h1 e1 hv hl q
      induction cs with
      | nil => rfl
      | cons c r ih =>
        rw [List.map_cons, List.map_cons, List.sum_cons, ih]
        show 1 + r.length = r.length + 1
        omega
    rw [e3]
    have e4 : (⟨#[]⟩ : Str).length = 0 := rfl
    rw [e4]
    omega
  · rw [join_signs]
    exact q _ _ _ e s1 (.str _)
/-- xs.index(n), ints, n there -/
theorem ev_indexL {ns : List Int} {n : Int} (h0 : Ev T K ta g r x r1) (h : Ev T K te g r1 (.int n) r2) (hv1 : Vl x r1 (ns.map D.int)) (hv : Vl x r2 (ns.map D.int)) (hn : n ∈ ns) : Ev T K (tBM K "list" (rIndex K) ta (tCons te tNil)) g r (.int ((ns.idxOf n : Nat) : Int)) r2 := fun rf Hs H σ s Q q =>
  h0 rf Hs H σ s _ fun v Hs1 H1 e1 s1 rv => by
    obtain ⟨a, xs, rfl, a1, a2⟩ := hv1.at s1 rv
    refine ⟨Or.inl ⟨rfl, xs, Evl.sq_of a1⟩, h rf Hs1 H1 σ s1 _ fun w Hs2 H2 e2 s2 rw' => ?_⟩
    cases rw'
    obtain ⟨b, ys, eb, b1, b2⟩ := hv.at s2 (DR.mono e2 x rv)
    cases eb
    have ey := DRs.ints_inv b2
    subst ey
    have hj : ns.idxOf n < ns.length := List.idxOf_lt_length_iff.mpr hn
    refine ⟨a, _, .int n, ns.idxOf n, .int n, rfl, rfl, Evl.sq_of b1, rfl, flats_int b2, ?_, by simp [eqV], fun m z' hm hz => ?_, q _ _ _ (e1.trans e2) s2 (.int _)⟩
    · rw [List.getElem?_map, List.getElem?_eq_getElem hj, List.getElem_idxOf hj]
      rfl
    · rw [List.getElem?_map] at hz
      cases hq : ns[m]? with
      | none => rw [hq] at hz; cases hz
      | some k =>
        rw [hq] at hz
        cases hz
        have hne : k ≠ n := fun e => by
          subst e
          have h1 := (List.getElem?_eq_some_iff.mp hq).1
          have h2 : ns[m] = k := (List.getElem?_eq_some_iff.mp hq).2
          have := List.not_of_lt_findIdx (p := fun x => x == k) (xs := ns) (i := m) hm
          simp [h2] at this
        simpa [eqV] using hne
/-- xs.remove(n), ints, n there -/
theorem ev_remove {p : Addr} {ns : List Int} {n : Int} {ds0 : List D} (j : Nat) (h0 : Ev T K ta g r (.ref p) r1) (hj0 : r1[j]? = some (rl p ds0)) (h : Ev T K te g r1 (.int n) r2) (hj : r2[j]? = some (rl p (ns.map D.int))) (hn : n ∈ ns) :
    Ev T K (tBM K "list" rRemI ta (tCons te tNil)) g r .non (r2.set j (rl p ((ns.erase n).map D.int))) := fun rf Hs H σ s Q q =>
  h0 rf Hs H σ s _ fun v Hs1 H1 e1 s1 rv => by
    cases rv
    refine ⟨ty_own s1 hj0, h rf Hs1 H1 σ s1 _ fun v Hs2 H2 e2 s2 rv => ?_⟩
    cases rv
    obtain ⟨ys, h1, h2⟩ := s2.rs _ (List.mem_append_left _ (List.mem_of_getElem? hj))
    have ey := DRs.ints_inv h2
    subst ey
    have hlt : ns.idxOf n < ns.length := List.idxOf_lt_length_iff.mpr hn
    refine ⟨p, ns, n, ns.idxOf n, rfl, rfl, h1, ?_, fun m hm hq => ?_, ?_⟩
    · rw [List.getElem?_eq_getElem hlt, List.getElem_idxOf hlt]
    · have h2 : ns[m]'((List.getElem?_eq_some_iff.mp hq).1) = n := (List.getElem?_eq_some_iff.mp hq).2
      have := List.not_of_lt_findIdx (p := fun x => x == n) (xs := ns) (i := m) hm
      simp [h2] at this
    · rw [← List.erase_eq_eraseIdx_of_idxOf (by rfl)]
      exact q _ _ _ (e1.trans e2) (s2.turn hj (DRs.ints _)) .non
/-! ### zip -/
theorem steps_zipT {Hs : Hp} {a b : Addr} {xs ys : List V} (h1 : SqT K Hs a xs) (h2 : SqT K Hs b ys) (r1 : DRs K Hs xs ds) (r2 : DRs K Hs ys es) : Steps T K Hs (RZ.ItzT K a b) (ds.zipWith (fun p q => D.tup [p, q]) es) := fun i Hs' H' e1 e2 => by
  have k1 : SqT K H' a xs := e2.st (e1.st h1)
  have k2 : SqT K H' b ys := e2.st (e1.st h2)
  refine ⟨fun hl => ⟨xs, ys, k1, k2, ?_⟩, fun d hd => ?_⟩
  · rw [List.length_zipWith] at hl
    rw [r1.length, r2.length]
    omega
  · rw [List.getElem?_zipWith] at hd
    cases q1 : ds[i]? with
    | none => rw [q1] at hd; cases hd
    | some d1 =>
      cases q2 : es[i]? with
      | none => rw [q1, q2] at hd; cases hd
      | some d2 =>
        rw [q1, q2] at hd
        cases hd
        obtain ⟨v1, a1, a2⟩ := r1.get q1
        obtain ⟨v2, b1, b2⟩ := r2.get q2
        refine ⟨⟨xs, ys, v1, v2, k1, k2, a1, b1⟩, fun v H2 y => ?_⟩
        obtain ⟨p, u1, u2, rfl, hp, rfl, y1, y2⟩ := y
        have z1 := y1 xs k1
        rw [a1] at z1
        cases z1
        have z2 := y2 ys k2
        rw [b1] at z2
        cases z2
        have hp0 : Hs' p = none := e2.back hp
        have e3 : Ext T Hs' (upd Hs' p (.tup [v1, v2])) := Ext.new hp0
        exact ⟨_, e3, .tup (Evl.st_of upd_same) (.cons (DR.mono (e1.trans e3) _ a2) (.cons (DR.mono (e1.trans e3) _ b2) .nil)), fun σ g r s => (s.alloc (o := .tup [v1, v2]) hp True.intro).1⟩
theorem ei_zipT (h : EvA T K tas g r [.tup ds, .tup es] r1) : EvI T K (RZ.iZipA K tas) g r (ds.zipWith (fun p q => D.tup [p, q]) es) r1 := fun rf Hs H σ s R q => h rf Hs H σ s _ fun vs Hs1 H1 e s1 rvs => by
  obtain ⟨v, w, rfl, rv, rw'⟩ := rvs.two
  obtain ⟨a, xs, rfl, a1, a2⟩ := rv.tupI
  obtain ⟨b, ys, rfl, b1, b2⟩ := rw'.tupI
  exact ⟨a, b, xs, ys, rfl, Or.inr ⟨s1.ex.st a1, s1.ex.st b1, q _ _ _ e s1 (steps_zipT a1 b1 a2 b2)⟩⟩
end
end DL
/-! generator expressions: over a text, a tuple, a list; the element read by a small calculus -/
namespace GX
open PySem PySem.Spec PyProof.Rows L2 GxR
/-- what an element of a generator expression reads: slots, heap, item; gives -/
abbrev ER := L2.St → Hp → V → V → Prop
section
variable (X : Cx)
structure GSt (σ : L2.St) (H : Hp) (cenv : Env) (x : Str) (xv : V) (s : Shared) : Prop where
  ok : X.Ok
  kind : cenv.scope.kind = .function
  gl : cenv.globals = mainGlobals
  loc : cenv.scope.names.lookup x = some .local
  ns : ∃ m u, s.heap.Ns cenv.locals m ∧ m x = some u ∧ RelV xv u
  cp : ∀ (i : Nat) y v, X.N[i]? = some y → σ[i]? = some (some v) → cenv.scope.names.lookup y = some .free → ∃ c u, cenv.cells.lookup y = some c ∧ s.heap.IsCell c (some u) ∧ RelV v u
  bk : ∀ b o, X.base.get? b = some o → s.heap.get? b = some o
  fz : ∀ a o u, H a = some (.frz o u) → s.heap.get? a = some o
  tp : ∀ a xs, SqT X.K H a xs → ∃ its : List Value, Vals xs its ∧ IsTup s.heap a its.toArray ∧ xs.length ≤ sizeLine
def GP (x : Str) (sc : Scope) (e : Expr) (el : ER) : Prop := ∀ (σ : L2.St) (H : Hp) (xv v : V), el σ H xv v → ∀ (cenv : Env) (A' : Around) (E' : Value → Shared → Prop) (s : Shared), A'.handled = none → cenv.scope = sc → GSt X σ H cenv x xv s →
  ∀ Q : Value → Shared → Prop, (∀ u s', RelV v u → Keeps s s' → Q u s') → wpAny (model X.prog X.w) A' (eval e cenv) Q E' s
end
section
variable {X : Cx} {σ : L2.St} {H : Hp} {cenv : Env} {x : Str} {xv : V} {s s' : Shared} {sc : Scope}
theorem _root_.PySem.Keeps.tr {s1 s2 s3 : Shared} (a : Keeps s1 s2) (b : Keeps s2 s3) : Keeps s1 s3 := by
  obtain ⟨h1, t1, rfl, k1⟩ := a
  obtain ⟨h2, t2, rfl, k2⟩ := b
  exact ⟨h2, t2, rfl, fun b o e => k2 b o (k1 b o e)⟩
theorem GSt.keeps (g : GSt X σ H cenv x xv s) (k : Keeps s s') : GSt X σ H cenv x xv s' := by
  obtain ⟨h1, t1, rfl, k1⟩ := k
  refine ⟨g.ok, g.kind, g.gl, g.loc, ?_, fun i y v a b c => ?_, fun b o e => k1 b o (g.bk b o e), fun a o u e => k1 a o (g.fz a o u e), fun a xs h => ?_⟩
  · obtain ⟨m, u, a, b, c⟩ := g.ns
    exact ⟨m, u, a.keeps k1, b, c⟩
  · obtain ⟨c, u, h1, ⟨o, h2, h3⟩, h4⟩ := g.cp i y v a b c
    exact ⟨c, u, h1, ⟨o, k1 _ _ h2, h3⟩, h4⟩
  · obtain ⟨its, h1, ⟨o, h2, h3⟩, h4⟩ := g.tp a xs h
    exact ⟨its, h1, ⟨o, k1 _ _ h2, h3⟩, h4⟩
def elItem : ER := fun _ _ xv v => v = xv
def elVar (i : Nat) : ER := fun σ _ _ v => σ[i]? = some (some v)
def elC (c : V) : ER := fun _ _ _ v => v = c
def elAdd (a b : ER) : ER := fun σ H xv v => ∃ m n, a σ H xv (.int m) ∧ b σ H xv (.int n) ∧ v = .int (m + n)
def elSub (a b : ER) : ER := fun σ H xv v => ∃ m n, a σ H xv (.int m) ∧ b σ H xv (.int n) ∧ v = .int (m - n)
def elIxT (K : PySem.W.Frag) (a b : ER) : ER := fun σ H xv v => ∃ p xs i, a σ H xv (.ref p) ∧ b σ H xv (.int i) ∧ SqT K H p xs ∧ atI xs i = some v
/-- row.index(n) of a tuple of ints -/
def elIdxT (K : PySem.W.Frag) (a b : ER) : ER := fun σ H xv v => ∃ (p : Addr) (o : Obj) (ns : List Int) (n : Int), a σ H xv (.ref p) ∧ b σ H xv (.int n) ∧ H p = some (.frz o (.tup (ns.map V.int))) ∧ o.dict = none ∧ n ∈ ns ∧ True ∧ v = .int ((ns.idxOf n : Nat) : Int)
/-- text.index(sign) -/
def elIdxS (a b : ER) : ER := fun σ H xv v => ∃ z y i rest, a σ H xv (.str z) ∧ b σ H xv (.str y) ∧ Builtin.Str.occurrences z y 0 z.length 1 = i :: rest ∧ v = .int ((i : Nat) : Int)
def elNotInS (a b : ER) : ER := fun σ H xv v => ∃ c z, a σ H xv (.str ⟨#[c]⟩) ∧ b σ H xv (.str z) ∧ v = .bl (!decide (c ∈ z.cps.toList))
theorem gp_item {pos : Pos} (hd : (x == ("__debug__" : Str)) = false := by decide) : GP X x sc (.Name x pos) elItem := fun σ H xv v e cenv A' E' s hA hs g Q q => by
  subst e
  obtain ⟨m, u, a, b, c⟩ := g.ns
  exact wpAny_Name (wpAny_loadName_local g.kind g.loc a b (q u s c (keeps_refl s))) hd
theorem gp_var (i : Nat) {y : Str} {pos : Pos} (hN : X.N[i]? = some y) (hf : sc.names.lookup y = some .free) (hd : (y == ("__debug__" : Str)) = false := by decide) (hcd : (y == ("__classdict__" : Str)) = false := by decide) : GP X x sc (.Name y pos) (elVar i) := fun σ H xv v e cenv A' E' s hA hs g Q q => by
  have hf' : cenv.scope.names.lookup y = some .free := by rw [hs]; exact hf
  obtain ⟨c, u, h1, h2, h3⟩ := g.cp i y v hN e hf'
  exact wpAny_Name (wpAny_loadName_free g.kind hf' h1 h2 (q u s h3 (keeps_refl s)) hcd) hd
theorem gp_glob {y : Str} {u : Value} {c : V} {pos : Pos} (hk : (Env.kindOf { (default : Env) with scope := sc } y) = some .globalImplicit) (hm : X.mg y = some u) (r : RelV c u) (hd : (y == ("__debug__" : Str)) = false := by decide) : GP X x sc (.Name y pos) (elC c) := fun σ H xv v e cenv A' E' s hA hs g Q q => by
  subst e
  have hk' : cenv.kindOf y = some .globalImplicit := by
    have e : cenv.kindOf y = Env.kindOf { (default : Env) with scope := sc } y := by unfold Env.kindOf; rw [hs]
    rw [e]
    exact hk
  exact Calls.Name_function_global g.kind hk' (Calls.loadGlobal_global (by rw [g.gl]; exact g.ok.mod.glob.keeps g.bk) hm (q u s r (keeps_refl s))) hd
theorem gp_int {n : Int} {j : Nat} {pos : Pos} : GP X x sc (.Constant (.int n) j pos) (elC (.int n)) := fun σ H xv v e cenv A' E' s hA hs g Q q => by
  subst e
  exact wpAny_Constant_int (q _ _ ⟨_, rfl⟩ (keeps_tok s _))
theorem gp_add {a b : Expr} {ea eb : ER} {pos : Pos} (ha : GP X x sc a ea) (hb : GP X x sc b eb) : GP X x sc (.BinOp a .Add b pos) (elAdd ea eb) := fun σ H xv v e cenv A' E' s hA hs g Q q => by
  obtain ⟨m, n, h1, h2, rfl⟩ := e
  refine wpAny_BinOp (ha σ H xv _ h1 cenv A' E' s hA hs g _ fun u s1 r1 k1 => hb σ H xv _ h2 cenv A' E' s1 hA hs (g.keeps k1) _ fun w s2 r2 k2 => ?_)
  obtain ⟨t, rfl⟩ := r1
  obtain ⟨t', rfl⟩ := r2
  exact add_int (q _ _ ⟨_, rfl⟩ (PySem.Keeps.tr (PySem.Keeps.tr k1 k2) (keeps_tok _ _)))
theorem gp_sub {a b : Expr} {ea eb : ER} {pos : Pos} (ha : GP X x sc a ea) (hb : GP X x sc b eb) : GP X x sc (.BinOp a .Sub b pos) (elSub ea eb) := fun σ H xv v e cenv A' E' s hA hs g Q q => by
  obtain ⟨m, n, h1, h2, rfl⟩ := e
  refine wpAny_BinOp (ha σ H xv _ h1 cenv A' E' s hA hs g _ fun u s1 r1 k1 => hb σ H xv _ h2 cenv A' E' s1 hA hs (g.keeps k1) _ fun w s2 r2 k2 => ?_)
  obtain ⟨t, rfl⟩ := r1
  obtain ⟨t', rfl⟩ := r2
  exact sub_int (q _ _ ⟨_, rfl⟩ (PySem.Keeps.tr (PySem.Keeps.tr k1 k2) (keeps_tok _ _)))
theorem gp_ixT {a b : Expr} {ea eb : ER} {pos : Pos} (ha : GP X x sc a ea) (hb : GP X x sc b eb) (hp : PlainIx b) : GP X x sc (.Subscript a b pos) (elIxT X.K ea eb) := fun σ H xv v e cenv A' E' s hA hs g Q q => by
  obtain ⟨p, xs, i, h1, h2, h3, h4⟩ := e
  refine Subscript_ (ha σ H xv _ h1 cenv A' E' s hA hs g _ fun u s1 r1 k1 => hb σ H xv _ h2 cenv A' E' s1 hA hs (g.keeps k1) _ fun w s2 r2 k2 => ?_)
  cases r1
  obtain ⟨t, rfl⟩ := r2
  obtain ⟨its, r, pl, hz⟩ := (g.keeps (PySem.Keeps.tr k1 k2)).tp p xs h3
  obtain ⟨j, z1, z2, z3, z4, z5⟩ := atI_get h4
  obtain ⟨w, ew, rw'⟩ := r.get z2
  have hl := r.length
  have hn := line63
  exact subscriptTail_builtinR (x := w) pl.typeIs slot_tuple_getitem.lookup
    (getItem_tuple (j := j) (Q := fun r s' => r = w ∧ Q r s') pl (by omega) (by omega) (by rw [List.size_toArray, ← hl]; exact z1) (by simpa using ew) ⟨rfl, q _ _ rw' (PySem.Keeps.tr k1 k2)⟩) (hp _ _)
/-- row.index(n), row a tuple whose object has no dict -/
theorem gp_idxT {o e : Expr} {eo ee : ER} {apos cpos : Pos} (ho : GP X x sc o eo) (he : GP X x sc e ee)
    (hbase : ∀ env : Env, attributeBase o "index" env (eval o env) = eval o env)
    (hfew : ∀ env : Env, ((backTo cpos (starEach [e] env)).all (fun x => !x.1) && (backToKw cpos (keywordEach [] env)).all (fun x => x.1.isSome)
      && decide (([e] : List Expr).length + ([] : List Keyword).length + (if ([] : List Keyword).isEmpty then 0 else 1) < 30)) = true)
    (hline : (apos.endLine == cpos.line) = true) (hs1 : ∀ env : Env, starEach [e] env = (false, eval e env) :: starEach [] env) (hplain : ∀ env : Env, (backTo cpos (starEach [] env)).any (·.1) = false) (hnil : ∀ env : Env, backTo cpos (starEach [] env) = []) :
    GP X x sc (.Call (.Attribute o "index" apos) [e] [] cpos) (elIdxT X.K eo ee) := fun σ H xv v e' cenv A' E' s hA hs g Q q => by
  obtain ⟨p, ob, ns, n, h1, h2, h3, h4, h5, h6, h7⟩ := e'
  refine wpAny_Call_method_late (hbase cenv) (hfew cenv) hline rfl (ho σ H xv _ h1 cenv A' E' s hA hs g _ fun u s1 r1 k1 => ?_)
  cases r1
  have g1 := g.keeps k1
  obtain ⟨its, rv, ht, hz⟩ := g1.tp p _ (Or.inl (Or.inr ⟨_, h3⟩))
  refine ⟨"tuple", "tuple.index", PySem.F.plainAttrs_tuple, PySem.F.slot_tuple_index, PySem.F.type_tuple_index, ht.typeIs, (fun a e => by cases e; exact ⟨ob, g1.fz _ _ _ h3, h4⟩), ?_⟩
  rw [hs1 cenv]
  refine Calls.callWith_builtin (by show (false || (backTo cpos (starEach [] cenv)).any (·.1)) = false; rw [hplain] <;> rfl) (Calls.evalArgs_plain ?_)
  refine Calls.spliced_cons (he σ H xv _ h2 cenv A' E' s1 hA hs g1 _ fun w s2 r2 k2 => ?_)
  obtain ⟨t, rfl⟩ := r2
  have hn : wpAny (model X.prog X.w) A' (spliced (backTo cpos (starEach [] cenv))) (fun vs s' => wpAny (model X.prog X.w) A' (call (.builtin "tuple.index") ([.ref p] ++ (Value.int n t :: vs))) Q E' s') E' s2 := by
    rw [hnil cenv]
    refine Calls.spliced_nil ?_
    have g2 := g1.keeps k2
    obtain ⟨its2, rv2, ht2, hz2⟩ := g2.tp p _ (Or.inl (Or.inr ⟨_, h3⟩))
    have hi := rv2.ints
    refine SeqAt.call_tuple_index (ks := ns) (k := n) (vs := its2) ht2 ⟨?_, fun j hj1 hj2 => ?_⟩ h5 (by subst h7; exact q _ _ ⟨_, rfl⟩ (PySem.Keeps.tr (PySem.Keeps.tr k1 k2) (keeps_tok _ _)))
    · rw [← rv2.length, List.length_map]
    · obtain ⟨w, hw, t', hw'⟩ := rv2.get (i := j) (x := .int ns[j]) (by simp [hj2])
      have e := (List.getElem?_eq_some_iff.mp hw).2
      rw [e, hw']
      have := SeqAt.EqAt.int_int (A := A'.in1) (s := s2) ns[j] t' n t
      have e2 : (ns[j] == n) = decide (ns[j] = n) := by
        by_cases z : ns[j] = n <;> simp [z]
      rw [e2] at this
      exact this
  exact hn
/-- text.index(sign) -/
theorem gp_idxS {o e : Expr} {eo ee : ER} {apos cpos : Pos} (ho : GP X x sc o eo) (he : GP X x sc e ee)
    (hbase : ∀ env : Env, attributeBase o "index" env (eval o env) = eval o env)
    (hfew : ∀ env : Env, ((backTo cpos (starEach [e] env)).all (fun x => !x.1) && (backToKw cpos (keywordEach [] env)).all (fun x => x.1.isSome)
      && decide (([e] : List Expr).length + ([] : List Keyword).length + (if ([] : List Keyword).isEmpty then 0 else 1) < 30)) = true)
    (hline : (apos.endLine == cpos.line) = true) (hs1 : ∀ env : Env, starEach [e] env = (false, eval e env) :: starEach [] env) (hplain : ∀ env : Env, (backTo cpos (starEach [] env)).any (·.1) = false) (hnil : ∀ env : Env, backTo cpos (starEach [] env) = []) :
    GP X x sc (.Call (.Attribute o "index" apos) [e] [] cpos) (elIdxS eo ee) := fun σ H xv v e' cenv A' E' s hA hs g Q q => by
  obtain ⟨z, y, i, rest, h1, h2, h3, h4⟩ := e'
  refine wpAny_Call_method_late (hbase cenv) (hfew cenv) hline rfl (ho σ H xv _ h1 cenv A' E' s hA hs g _ fun u s1 r1 k1 => ?_)
  obtain ⟨t1, rfl⟩ := r1
  have g1 := g.keeps k1
  refine ⟨"str", "str.index", PySem.F.plainAttrs_str, PySem.F.slot_str_index, PySem.F.type_str_index, typeIs_str _ _ _, (fun _ e => nomatch e), ?_⟩
  rw [hs1 cenv]
  refine Calls.callWith_builtin (by show (false || (backTo cpos (starEach [] cenv)).any (·.1)) = false; rw [hplain] <;> rfl) (Calls.evalArgs_plain ?_)
  refine Calls.spliced_cons (he σ H xv _ h2 cenv A' E' s1 hA hs g1 _ fun w s2 r2 k2 => ?_)
  obtain ⟨t, rfl⟩ := r2
  have hn : wpAny (model X.prog X.w) A' (spliced (backTo cpos (starEach [] cenv))) (fun vs s' => wpAny (model X.prog X.w) A' (call (.builtin "str.index") ([.str z t1] ++ (Value.str y t :: vs))) Q E' s') E' s2 := by
    rw [hnil cenv]
    refine Calls.spliced_nil ?_
    exact PySem.SC.index h3 (by subst h4; exact q _ _ ⟨_, rfl⟩ (PySem.Keeps.tr (PySem.Keeps.tr k1 k2) (keeps_tok _ _)))
  exact hn
/-- sign not in text -/
theorem gp_notInS {a b : Expr} {ea eb : ER} {pos : Pos} (ha : GP X x sc a ea) (hb : GP X x sc b eb) (hm : behindInMarks .NotIn b = false) : GP X x sc (.Compare a [.NotIn] [b] pos) (elNotInS ea eb) := fun σ H xv v e cenv A' E' s hA hs g Q q => by
  obtain ⟨c, z, h1, h2, rfl⟩ := e
  refine wpAny_Compare1 (ha σ H xv _ h1 cenv A' E' s hA hs g _ fun u s1 r1 k1 => hb σ H xv _ h2 cenv A' E' s1 hA hs (g.keeps k1) _ fun w s2 r2 k2 => ?_) hm
  obtain ⟨t, rfl⟩ := r1
  obtain ⟨t', rfl⟩ := r2
  refine PyProof.Rows.notIn_str (q _ _ ?_ (PySem.Keeps.tr k1 k2))
  exact congrArg Value.bool (congrArg Bool.not (PySem.StrLaws.found_one z c))
/-! ### what is walked -/
def IW (X : Cx) (iw : V → Hp → List V → Prop) : Prop := ∀ (pins : List (Addr × Obj)) (σ : L2.St) (H : Hp) (s : Shared) (v : V) (u : Value) (xs : List V), Inv X pins σ H s → RelV v u → iw v H xs → ∀ (Q : Value → Shared → Prop) (E : Value → Shared → Prop),
  (∀ (o : Obj) (fp : List Addr) (St : Nat → Heap → Prop) (Pf : Nat → Value → Prop), (∀ A' : Around, A'.handled = none → Walks X.prog X.w A' s.heap.objs.size fp [s.heap.objs.size] xs.length Pf St) →
    (∀ i y, Pf i y → ∃ x, xs[i]? = some x ∧ RelV x y) → St 0 (s.heap.push o) → (∀ b ∈ fp, b = s.heap.objs.size ∨ ∃ ob : Obj, s.heap.get? b = some ob ∧ ∀ ps, ob.data ≠ .fields ps) →
    Q (.ref s.heap.objs.size) { s with heap := s.heap.push o }) → wpAny (model X.prog X.w) X.A (pyIter u) Q E s
def iwS : V → Hp → List V → Prop := fun v _ xs => ∃ a : Str, v = .str a ∧ xs = a.cps.toList.map fun c => V.str ⟨#[c]⟩
def iwT (K : PySem.W.Frag) : V → Hp → List V → Prop := fun v H xs => ∃ p, v = .ref p ∧ SqT K H p xs
def iwL (K : PySem.W.Frag) : V → Hp → List V → Prop := fun v H xs => ∃ p, v = .ref p ∧ SqL K H p xs
theorem iw_str : IW X iwS := fun pins σ H s v u xs I r h Q E q => by
  obtain ⟨a, rfl, rfl⟩ := h
  obtain ⟨t, rfl⟩ := r
  refine wpAny_pyIter_str fun o St W hst => q o [s.heap.objs.size] St (SignAt a) (by simpa using W) (fun i y hy => ?_) hst fun b hb => Or.inl (by simpa using hb)
  obtain ⟨c, t, h1, rfl⟩ := hy
  refine ⟨.str ⟨#[c]⟩, ?_, ⟨t, rfl⟩⟩
  rw [List.getElem?_map, Array.getElem?_toList, h1]
  rfl
theorem iw_tup : IW X (iwT X.K) := fun pins σ H s v u xs I r h Q E q => by
  obtain ⟨p, rfl, h⟩ := h
  cases r
  obtain ⟨its, rv, ht, hz⟩ := I.tuple h
  have hlt : p < s.heap.objs.size := let ⟨o, ho, _⟩ := ht; Heap.lt_size ho
  refine wpAny_pyIter_tuple ht (q _ [s.heap.objs.size, p] (fun i h => h.IsTupleIter s.heap.objs.size p i ∧ h.IsTuple p its.toArray) (fun i v => its.toArray[i]? = some v) (fun A' hA => ?_) (fun i y hy => ?_) ⟨⟨_, Heap.get?_push_size _ rfl, rfl, rfl⟩, ht.push _⟩ fun b hb => ?_)
  · have := Walks.tuple (prog := X.prog) (w := X.w) (A := A') hA s.heap.objs.size p (Nat.ne_of_lt hlt) its.toArray
    have e : its.toArray.size = xs.length := by rw [List.size_toArray]; exact rv.length.symm
    rw [e] at this
    exact this
  · have hi : i < its.length := by
      have := (Array.getElem?_eq_some_iff.mp hy).1
      simpa using this
    have hi2 : i < xs.length := by rw [rv.length]; exact hi
    obtain ⟨w, hw, rw'⟩ := rv.get (List.getElem?_eq_getElem hi2)
    refine ⟨xs[i], List.getElem?_eq_getElem hi2, ?_⟩
    have e : its.toArray[i]? = some w := by simpa using hw
    rw [hy] at e
    cases e
    exact rw'
  · rcases List.mem_cons.mp hb with z | z
    · exact Or.inl z
    · have : b = p := by simpa using z
      subst this
      obtain ⟨o, ho, hc, n, hd⟩ := ht
      exact Or.inr ⟨o, ho, fun ps e => by rw [hd] at e; cases e⟩
theorem iw_lst : IW X (iwL X.K) := fun pins σ H s v u xs I r h Q E q => by
  obtain ⟨p, rfl, h⟩ := h
  cases r
  obtain ⟨its, rv, ht, hz⟩ := I.list h
  have hlt : p < s.heap.objs.size := let ⟨o, ho, _⟩ := ht.isList; Heap.lt_size ho
  refine wpAny_pyIter_list ht.isList (q _ [s.heap.objs.size, p] (fun i h => h.IsListIter s.heap.objs.size p i ∧ h.IsList p its.toArray) (fun i v => its.toArray[i]? = some v) (fun A' hA => ?_) (fun i y hy => ?_) ⟨⟨_, Heap.get?_push_size _ rfl, rfl, rfl⟩, ht.isList.push _⟩ fun b hb => ?_)
  · have := Walks.list (prog := X.prog) (w := X.w) (A := A') hA s.heap.objs.size p (Nat.ne_of_lt hlt) its.toArray
    have e : its.toArray.size = xs.length := by rw [List.size_toArray]; exact rv.length.symm
    rw [e] at this
    exact this
  · have hi : i < its.length := by
      have := (Array.getElem?_eq_some_iff.mp hy).1
      simpa using this
    have hi2 : i < xs.length := by rw [rv.length]; exact hi
    obtain ⟨w, hw, rw'⟩ := rv.get (List.getElem?_eq_getElem hi2)
    refine ⟨xs[i], List.getElem?_eq_getElem hi2, ?_⟩
    have e : its.toArray[i]? = some w := by simpa using hw
    rw [hy] at e
    cases e
    exact rw'
  · rcases List.mem_cons.mp hb with z | z
    · exact Or.inl z
    · have : b = p := by simpa using z
      subst this
      obtain ⟨o, ho, hc, n, hd⟩ := ht.isList
      exact Or.inr ⟨o, ho, fun ps e => by rw [hd] at e; cases e⟩
end
end GX
namespace GX
open PySem PySem.Spec PyProof.Rows L2 GxR
/-- the generator expression's scope in the scope of its def -/
structure GS (sc scope : Scope) (x : Str) : Prop where
  kind : scope.kind = .function
  co : scope.isCoroutine = false
  cell : ∀ y ∈ scope.names, y.2 ≠ .cell
  dot : scope.names.lookup (".0" : Str) = some NameKind.local
  loc : scope.names.lookup x = some .local
  free : ∀ y ∈ scope.names, y.2 = .free → sc.names.lookup y.1 = some .cell ∨ sc.names.lookup y.1 = some .free
def gsB (sc scope : Scope) (x : Str) : Bool :=
  decide (scope.kind = .function) && !scope.isCoroutine && scope.names.all (fun y => !decide (y.2 = .cell)) && decide (scope.names.lookup (".0" : Str) = some NameKind.local) && decide (scope.names.lookup x = some .local) &&
  scope.names.all fun y => !decide (y.2 = .free) || decide (sc.names.lookup y.1 = some .cell) || decide (sc.names.lookup y.1 = some .free)
theorem gs_by {sc scope : Scope} {x : Str} (h : gsB sc scope x = true) : GS sc scope x := by
  unfold gsB at h
  simp only [Bool.and_eq_true, Bool.or_eq_true, Bool.not_eq_true', decide_eq_true_eq, decide_eq_false_iff_not, List.all_eq_true] at h
  obtain ⟨⟨⟨⟨⟨h1, h2⟩, h3⟩, h4⟩, h5⟩, h6⟩ := h
  refine ⟨h1, h2, h3, h4, h5, fun y hy e => ?_⟩
  rcases h6 y hy with (z | z) | z
  · exact absurd e z
  · exact .inl z
  · exact .inr z
theorem GS.gen {X : Cx} {scope : Scope} {x : Str} (S : GS X.env.scope scope x) (ok : X.Ok) : GenS X.env scope x := ⟨S.kind, S.co, S.cell, S.dot, S.loc, fun y hy e => (S.free y hy e).elim (fun z => ok.has _ (.inl z)) fun z => ok.has _ (.inr z)⟩
theorem GS.vis {sc scope : Scope} {x : Str} (S : GS sc scope x) : ∀ y, scope.names.lookup y = some .free → sc.names.lookup y = some .cell ∨ sc.names.lookup y = some .free := fun y h => S.free _ (PySem.mem_of_lookup h) rfl
section
variable {X : Cx} {pins : List (Addr × Obj)} {σ : L2.St} {H : Hp} {s : Shared}
/-- the generator g whose items are f 0, f 1, .. -/
def ReadyV (X : Cx) (pins : List (Addr × Obj)) (σ : L2.St) (H1 : Hp) (P : Addr) (n : Nat) (f : Nat → V) (g : Addr) (s5 : Shared) : Prop :=
  ∃ (fp wr : List Addr) (G : Array GenState → Array GenState → Prop) (F : Nat → Value → Prop) (St : Nat → Shared → Prop),
    WalksS X.prog X.w X.A.in4 g fp wr G n F St ∧ St 0 s5 ∧ (∀ b ∈ fp, b < s5.heap.objs.size) ∧ g ∈ fp ∧ (∀ i s, St i s → s.TypeIs (.ref g) "generator") ∧
    (∀ i y, F i y → i < n ∧ RelV (f i) y) ∧
    ∀ s', Moved wr G s5 s' → ∃ H2, Tabbed P H1 H2 ∧ Inv X pins σ H2 s'
theorem gen_any {c P : Addr} {elt iter : Expr} {x : Str} {px gpos : Pos} {scope : Scope} {el : ER} {te : TE} {iw : V → Hp → List V → Prop} {k : Nat} {Q' : Value → Shared → Prop} {R : List V → Hp → (Nat → V) → Prop}
    (hr : Room k X.A) (TB : TabB X.base X.mg c P) (hcode : X.env.code = .ref c) (S : GenS X.env scope x) (hi : PE X iter te) (hiw : IW X iw) (hel : GP X x scope elt el)
    (hs : ∀ v, genFold iter X.env v = pure v) (hvis : ∀ y, scope.names.lookup y = some .free → X.env.scope.names.lookup y = some .cell ∨ X.env.scope.names.lookup y = some .free) (I : Inv X pins σ H s)
    (h : te σ H fun v H1 => ∃ xs, iw v H1 xs ∧ TabG H1 P ∧ ∃ f : Nat → V, (∀ i x, xs[i]? = some x → el σ H1 x (f i)) ∧ R xs H1 f)
    (hQ : ∀ xs H1 f g s5, R xs H1 f → ReadyV X pins σ H1 P xs.length f g s5 → Q' (.ref g) s5) :
    wpAny (model X.prog X.w) X.A (eval (.GeneratorExp elt [⟨.Name x px, iter, [], 0⟩] scope gpos) X.env) Q' X.xe s := by
  refine wpAny_GeneratorExp_walksQ hr.hd S.co (closure_ok S.free) S.cell S.dot S.loc S.kind (by have := hr.dp; omega) ?_ hs
  refine thn (hi.run pins s σ H _ I h) fun xv s1 ⟨v, H1, I1, r1, q1⟩ => ?_
  obtain ⟨xs, hxs, ⟨ps, hP, ht⟩, f, hf, q1⟩ := q1
  refine hiw pins σ H1 s1 v xv xs I1 r1 hxs _ _ fun o fp St Pf W hPf hst hfp => ?_
  have hPs : s1.heap.get? P = some { cls := .none, data := .fields ps } := I1.hok P _ hP
  have hPlt : P < s1.heap.objs.size := Heap.lt_size hPs
  have hP2 : (s1.heap.push o).get? P = some { cls := .none, data := .fields ps } := Heap.get?_push_of_some _ hPs
  have cd : PySem.W.CodeHd (s1.heap.push o) c P := TB.code.keeps fun b u e => Heap.get?_push_of_some _ (I1.bk b u e)
  have lim2 : (s1.heap.push o).NoLimit := I1.nolimit.push o
  have cont : ∀ (code : Value) (h3 : Heap) (tk : Nat) (ps' : Array Value), Heap.ExtBut P (s1.heap.push o) h3 → (s1.heap.push o).objs.size ≤ h3.objs.size → h3.get? P = some { cls := .none, data := .fields ps' } → (∃ more, ps' = ps ++ more) → TriplesOk ps'.toList →
      wpAny (model X.prog X.w) X.A (builtinsFor X.env.globals X.env.builtins) (fun bi s₄ =>
        ∃ Ia fp wr n₀ Pf St₀ pz F, Value.ref s1.heap.objs.size = .ref Ia ∧ (∀ A' : Around, A'.handled = none → Walks X.prog X.w A' Ia fp wr n₀ Pf St₀) ∧ St₀ 0 s₄.heap ∧ (∀ b ∈ fp, b < s₄.heap.objs.size) ∧ s₄.heap.NoLimit ∧ cStatics ∉ wr ∧
          (∀ href : Heap, (∀ b o, s₄.heap.get? b = some o → href.get? b = some o) →
            QuietGen X.prog X.w (genEnv scope (cloFrom X.env.cells scope.names []) s₄.heap.objs.size code bi X.env) x [] elt (List.range s₄.heap.objs.size) wr Pf pz F href) ∧
          (∀ a h₅ tk gs, gs.bare = true → s₄.heap.objs.size < a → h₅.objs.size = a + 1 → (∀ b o, s₄.heap.get? b = some o → h₅.get? b = some o) →
            WalksS X.prog X.w X.A.in4 a (a :: s₄.heap.objs.size :: List.range s₄.heap.objs.size) (s₄.heap.objs.size :: wr) (GenOnlyQ s₄.gens.size) (passing pz n₀ 0).length
              (fun j y => ∃ i, (passing pz n₀ 0)[j]? = some i ∧ F i y) (GenAt X.prog X.w X.A.in4 a s₄.gens.size s₄.heap.objs.size (List.range s₄.heap.objs.size) wr pz n₀ F) →
            GenAt X.prog X.w X.A.in4 a s₄.gens.size s₄.heap.objs.size (List.range s₄.heap.objs.size) wr pz n₀ F 0 { s₄ with gens := s₄.gens.push gs, toks := tk, heap := h₅ } →
            Q' (.ref a) { s₄ with gens := s₄.gens.push gs, toks := tk, heap := h₅ })) X.xe { s1 with heap := h3, toks := tk } := by
    intro code h3 tk ps' hx hsz hP3 hmore ht3
    obtain ⟨bm, ob, e1, e2, e3, e4, e5, e6, e7, e8⟩ := TB.bm
    have hcP : cStatics ≠ P := fun e => by
      obtain ⟨_, hns, _⟩ := I1.nolimit
      obtain ⟨o', es, ep, ho, hd, _⟩ := hns
      rw [e, hPs] at ho
      cases ho
      cases hd
    have hcl : cStatics < s1.heap.objs.size := let ⟨_, hns, _⟩ := I1.nolimit; hns.lt
    have sz2 : (s1.heap.push o).objs.size = s1.heap.objs.size + 1 := Heap.size_push ..
    have hs3 : s1.heap.objs.size < h3.objs.size := by rw [sz2] at hsz; exact hsz
    have keep3 : ∀ b u, b ≠ P → s1.heap.get? b = some u → h3.get? b = some u := fun b u hb e => hx b u hb (Heap.get?_push_of_some _ e)
    refine wpAny_builtinsFor (m := X.mg) (by rw [I1.ok.glob]; exact ((I1.mod.glob.keeps I1.bk).push o).extBut hx TB.gP) e1 e2 (keep3 _ _ e4 (I1.bk _ _ e5)) e6 e7 e8 ?_
    refine ⟨s1.heap.objs.size, fp, [s1.heap.objs.size], xs.length, Pf, St, (fun _ => true), (fun i y => i < xs.length ∧ RelV (f i) y), rfl, W, ?_, ?_, lim2.extBut hx hcP, ?_, ?_, ?_⟩
    · refine (W X.A hr.hd).frame _ _ _ hst fun b hb u e => hx b u (fun z => ?_) e
      rcases hfp b hb with z2 | ⟨ob', h1, h2⟩
      · exact Nat.ne_of_lt hPlt (z.symm.trans z2)
      · rw [z, hPs] at h1
        cases h1
        exact h2 _ rfl
    · intro b hb
      show b < h3.objs.size
      rcases hfp b hb with z | ⟨ob', h1, h2⟩
      · rw [z]
        exact hs3
      · exact Nat.lt_trans (Heap.lt_size h1) hs3
    · intro z
      rcases List.mem_cons.mp z with z | z
      · exact Nat.ne_of_lt hcl z
      · cases z
    · intro href hhref
      refine ⟨fun A' E' i v s₂ m₂ hA hPv hn hm hk => ?_, fun A' E' i v s₂ m₂ hA hPv hp hn hm hk => ?_⟩
      · simp only [List.forIn_nil]
        exact wpAny_pure ⟨rfl, keeps_refl _⟩
      · obtain ⟨xi, h1, h2⟩ := hPf i v hPv
        have hlt : i < xs.length := (List.getElem?_eq_some_iff.mp h1).1
        have nw : ∀ b u, s1.heap.get? b = some u → b ∉ [s1.heap.objs.size] := fun b u e hb => by
          have hl := Heap.lt_size e
          have z : b = s1.heap.objs.size := by simpa using hb
          rw [z] at hl
          exact Nat.lt_irrefl _ hl
        have up : ∀ b u, b ≠ P → s1.heap.get? b = some u → s₂.heap.get? b = some u := fun b u hb e => by
          have l1 : b < h3.objs.size := by
            exact Nat.lt_trans (Heap.lt_size e) hs3
          exact hk b (List.mem_range.mpr l1) (nw b u e) u (hhref b u (keep3 b u hb e))
        have nPb : ∀ b u, X.base.get? b = some u → b ≠ P := fun b u e z => by
          have q := (I1.bs b u e).2
          rw [z, hP] at q
          cases q
        refine hel σ H1 xi (f i) (hf i xi h1) _ A' E' s₂ hA ?_ ?_ _ fun u s' ru ku => ⟨⟨hlt, ru⟩, ku⟩
        · rfl
        refine ⟨I1.ok, S.kind, I1.ok.glob, S.loc, ⟨m₂, v, hn, hm, h2⟩, fun j y u e1 e2 e3 => ?_, fun b u e => up b u (nPb b u e) (I1.bk b u e), fun a o' u e => ?_, fun a zs e => ?_⟩
        · obtain ⟨m, hm1, hl⟩ := I1.loc
          have e3' : scope.names.lookup y = some .free := e3
          have hv := hvis y e3'
          obtain ⟨w, rw', lk⟩ := hl j y u e1 e2 (by rcases hv with z | z; exact Or.inr (Or.inl z); exact Or.inr (Or.inr z))
          obtain ⟨cc, hc1, oc, hc2, hc3⟩ : ∃ cc, X.env.cells.lookup y = some cc ∧ s1.heap.IsCell cc (some w) := by
            rcases lk with ⟨z, _⟩ | ⟨_, z⟩
            · have z' : X.env.scope.names.lookup y = some .local := z
              rcases hv with q | q <;> rw [q] at z' <;> cases z'
            · exact z
          have ncP : cc ≠ P := fun z => by
            rw [z, hPs] at hc2
            cases hc2
            cases hc3
          obtain ⟨c2, hc4⟩ := mem_lookup (cloFrom_has (cells := X.env.cells) (acc := []) (PySem.mem_of_lookup e3'))
          refine ⟨c2, w, hc4, ?_, rw'⟩
          have hc5 := PySem.mem_of_lookup hc4
          rcases cloFrom_mem hc5 with z | ⟨_, z⟩
          · cases z
          · have : c2 = cc := by rw [z, hc1]; rfl
            rw [this]
            exact ⟨oc, up cc oc ncP hc2, hc3⟩
        · have nP : a ≠ P := fun z => by
            rw [z, hP] at e
            cases e
          exact up a o' nP ((I1.hok a _ e).1)
        · obtain ⟨its, y1, ⟨o', y2, y3, n, y5⟩, y4⟩ := I1.tuple e
          have nP : a ≠ P := fun z => by
            rw [z, hPs] at y2
            cases y2
            cases y5
          exact ⟨its, y1, ⟨o', up a o' nP y2, y3, n, y5⟩, y4⟩
    · intro g h5 tk5 gs hgb hag hsz5 hk5 W5 hat
      simp only [GxR.passing_true, List.length_range] at W5
      refine hQ xs H1 f g _ q1 ⟨_, _, _, _, _, W5, hat, ?_, List.mem_cons_self, fun i s9 h9 => ?_, ?_, fun s' hm => ?_⟩
      · intro b hb
        show b < h5.objs.size
        have e5 : h5.objs.size = g + 1 := hsz5
        have h8 : h3.objs.size < g := hag
        rw [e5]
        rcases List.mem_cons.mp hb with z | z
        · rw [z]
          exact Nat.lt_succ_self g
        · rcases List.mem_cons.mp z with z | z
          · rw [z]
            exact Nat.lt_succ_of_lt h8
          · have z2 := List.mem_range.mp z
            have h7 : b < h3.objs.size := z2
            exact Nat.lt_succ_of_lt (Nat.lt_trans h7 h8)
      · obtain ⟨hg9, _⟩ := h9
        exact hg9.typeIs
      · intro j y hy
        obtain ⟨i, hij, h1, h2⟩ := hy
        obtain ⟨hj, ej⟩ := List.getElem?_eq_some_iff.mp hij
        rw [List.getElem_range] at ej
        subst ej
        exact ⟨h1, h2⟩
      · obtain ⟨more, em⟩ := hmore
        have nwr : ∀ b u, s1.heap.get? b = some u → b ∉ h3.objs.size :: [s1.heap.objs.size] := fun b u e hb => by
          have hl := Heap.lt_size e
          rcases List.mem_cons.mp hb with z | z
          · rw [z] at hl
            have h9 : (h3.objs.size : Nat) < s1.heap.objs.size := hl
            omega
          · rcases List.mem_cons.mp z with z | z
            · rw [z] at hl
              exact Nat.lt_irrefl _ hl
            · cases z
        have J := inv_tab (more := more) (h' := s'.heap) (g' := s'.gens) (d' := s'.drawn) (t' := s'.toks) I1 hP (fun b u hb e => hm.heap b u (nwr b u e) (hk5 b u (keep3 b u hb e)))
          (by rw [← em]; exact hm.heap P _ (nwr P _ hPs) (hk5 P _ hP3)) (AllBare.movedS (I1.bare.push hgb) hm)
        rw [sh_eta s1 s' hm.os] at J
        refine ⟨upd H1 P (.tbl (ps ++ more)), ⟨⟨ps ++ more, upd_same, by rw [← em]; exact ht3⟩, fun b hb => upd_ne hb⟩, J⟩
  refine ⟨lim2, ?_⟩
  cases hf : codeAmong gpos ps.toList with
  | none =>
    refine wpAny_genexprCodeX hcode (cd.code hP2 ht) (cd.tab hP2) hf fun c' h' tk hx hge hlt hco' _ htab' _ => ?_
    obtain ⟨o1, vs, f1, tf, fl, tg, inF, tx, tt, op, _, _, _, _, _, _, _, _, _, htr, _⟩ := hco'
    exact cont _ h' tk _ hx (Nat.le_trans hge (Nat.le_of_lt hlt)) htab'.2 ⟨_, rfl⟩ htr
  | some cv =>
    refine wpAny_genexprCode_hit hcode (cd.code hP2 ht) hf ?_
    exact cont cv (s1.heap.push o) s1.toks ps (Heap.ExtBut.refl _ _) (Nat.le_refl _) hP2 ⟨#[], by simp⟩ ht
/-- any(..) of tests -/
def tGAny (P : Addr) (iw : V → Hp → List V → Prop) (el : ER) (te : TE) : TE := fun σ H Q => te σ H fun v H1 => ∃ xs, iw v H1 xs ∧ TabG H1 P ∧ ∃ f : Nat → V, (∀ i x, xs[i]? = some x → el σ H1 x (f i)) ∧
  ∃ b : Nat → Bool, (∀ i, i < xs.length → f i = .bl (b i)) ∧ ∀ H2, Tabbed P H1 H2 → Q (.bl ((List.range xs.length).any b)) H2
theorem pe_anyGen {c P : Addr} {elt iter : Expr} {x : Str} {px p pos gpos : Pos} {scope : Scope} {el : ER} {te : TE} {iw : V → Hp → List V → Prop} {k : Nat}
    (hr : Room k X.A) (hg : Gl X "any") (hm : X.mg "any" = none) (TB : TabB X.base X.mg c P) (hcode : X.env.code = .ref c) (S : GS X.env.scope scope x) (hi : PE X iter te) (hiw : IW X iw) (hel : GP X x scope elt el)
    (hs : ∀ v, genFold iter X.env v = pure v)
    (he : starEach [.GeneratorExp elt [⟨.Name x px, iter, [], 0⟩] scope gpos] X.env = (false, eval (.GeneratorExp elt [⟨.Name x px, iter, [], 0⟩] scope gpos) X.env) :: starEach [] X.env := by rfl) :
    PE X (.Call (.Name "any" p) [.GeneratorExp elt [⟨.Name x px, iter, [], 0⟩] scope gpos] [] pos) (tGAny P iw el te) := by
  refine ⟨fun pins s σ H Q I h => ?_⟩
  refine wpAny_Call_Name_kw (ld_blt I hg hm boot_any ?_)
  refine PyProof.Rows.callWith_builtin1 ?_ he (by rfl)
  rw [he]
  show wpAny _ _ (spliced ((false, eval (.GeneratorExp elt [⟨.Name x px, iter, [], 0⟩] scope gpos) X.env) :: backTo pos (starEach [] X.env))) _ _ s
  refine Calls.spliced_cons (gen_any (R := fun xs H1 f => ∃ b : Nat → Bool, (∀ i, i < xs.length → f i = .bl (b i)) ∧ ∀ H2, Tabbed P H1 H2 → Q (.bl ((List.range xs.length).any b)) H2) hr TB hcode (S.gen I.ok) hi hiw hel hs S.vis I h fun xs H1 f g s5 hR hG => ?_)
  obtain ⟨fp, wr, G, F, St, W, hst, _, _, _, hF, hI⟩ := hG
  obtain ⟨b, hb, hR⟩ := hR
  refine Calls.spliced_nil ?_
  refine call_any_walkS (W.in4_1.self 0 _ _ _ hst ⟨g, fp, wr, G, _, F, St, b, rfl, W.in4_1, hst, ?_, fun s' hmv => ?_⟩)
  · intro j y sj Qj Ej hy hQj
    obtain ⟨h1, h2⟩ := hF j y hy
    rw [hb j h1] at h2
    cases h2
    exact wpAny_truthy_bool hQj
  · obtain ⟨H2, hT, J⟩ := hI s' hmv
    exact ⟨.bl _, H2, J, rfl, hR H2 hT⟩
/-- tuple(..) -/
def tGTup (P : Addr) (iw : V → Hp → List V → Prop) (el : ER) (te : TE) : TE := fun σ H Q => te σ H fun v H1 => ∃ xs, iw v H1 xs ∧ TabG H1 P ∧ ∃ f : Nat → V, (∀ i x, xs[i]? = some x → el σ H1 x (f i)) ∧
  xs.length ≤ 100000 ∧ ∀ H2, Tabbed P H1 H2 → ∀ (p : Addr) (o : Obj), H2 p = none → o.dict = none → Q (.ref p) (upd H2 p (.frz o (.tup ((List.range xs.length).map f))))
theorem pe_tupGen {c P : Addr} {elt iter : Expr} {x : Str} {px p pos gpos : Pos} {scope : Scope} {el : ER} {te : TE} {iw : V → Hp → List V → Prop} {k : Nat}
    (hr : Room k X.A) (hg : Gl X "tuple") (hm : X.mg "tuple" = none) (TB : TabB X.base X.mg c P) (hcode : X.env.code = .ref c) (S : GS X.env.scope scope x) (hi : PE X iter te) (hiw : IW X iw) (hel : GP X x scope elt el)
    (hs : ∀ v, genFold iter X.env v = pure v)
    (he : starEach [.GeneratorExp elt [⟨.Name x px, iter, [], 0⟩] scope gpos] X.env = (false, eval (.GeneratorExp elt [⟨.Name x px, iter, [], 0⟩] scope gpos) X.env) :: starEach [] X.env := by rfl) :
    PE X (.Call (.Name "tuple" p) [.GeneratorExp elt [⟨.Name x px, iter, [], 0⟩] scope gpos] [] pos) (tGTup P iw el te) := by
  refine ⟨fun pins s σ H Q I h => ?_⟩
  refine Call_ (ld_blt I hg hm boot_tuple (PyProof.Rows.callWith_type1 (args_cons (gen_any (R := fun xs H1 f => xs.length ≤ 100000 ∧ ∀ H2, Tabbed P H1 H2 → ∀ (p : Addr) (o : Obj), H2 p = none → o.dict = none → Q (.ref p) (upd H2 p (.frz o (.tup ((List.range xs.length).map f))))) hr TB hcode (S.gen I.ok) hi hiw hel hs S.vis I h fun xs H1 f g s5 hR hG => args_nil ?_) he) he))
  obtain ⟨fp, wr, G, F, St, W, hst, hfp, hgf, hT, hF, hI⟩ := hG
  obtain ⟨hz, hR⟩ := hR
  refine call_tuple_gen (hsz := Evl.sz_of hz) W.in4_3 hT hst hfp hgf fun s' acc hm hacc => ?_
  obtain ⟨H2, hTb, J⟩ := hI s' hm
  have hpn : H2 s'.heap.objs.size = none := J.hok.fresh (Nat.le_refl _)
  have hv : Vals ((List.range xs.length).map f) acc.toList := by
    refine vals_of_at (by simp [hacc.1]) fun j y u h1 h2 => ?_
    have h3 : acc[j]? = some u := by simpa using h2
    have h4 := hF j u (hacc.2 j u h3)
    rw [List.getElem?_map, List.getElem?_eq_getElem (by simpa using h4.1)] at h1
    simp at h1
    rw [← h1]
    exact h4.2
  refine ⟨.ref s'.heap.objs.size, upd H2 s'.heap.objs.size (.frz { cls := .type "tuple", data := .seq acc } (.tup ((List.range xs.length).map f))), J.laid (t' := s'.toks) (fun c o e => Heap.get?_push_of_some _ e) (Nat.le_refl _) ?_, rfl, hR H2 hTb _ _ hpn rfl⟩
  refine ⟨Heap.get?_push_size _ rfl, Evl.sz_of (by simpa using hz), acc.toList, hv, ?_⟩
  rw [Array.toArray_toList]
  exact IsTup.new _ _
end
end GX
namespace DL
open PySem PySem.Spec PyProof.Rows L2 GX GxR
section
variable {T : Tb} {K : PySem.W.Frag} {E : XK} {g g' : G} {r r' r1 r2 r3 : Rs} {ta tb tc te : TE} {t : TT} {x y z d : D} {ds es xs : List D} {tas : TA} {O O' : Out} {s1 s2 ts tu : TS} {i j k : Nat} {tg : TG} {P : Addr}
/-- a weaker reading of a tuple -/
theorem ev_tux (h : Ev T K te g r (.tux ds) r1) : Ev T K te g r (.tup ds) r1 := fun rf Hs H σ s Q q => h rf Hs H σ s Q fun v Hs1 H1 e s1 rv => q v Hs1 H1 e s1 rv.weakT
theorem ev_varW (h : g[i]? = some (some (.tux ds))) : Ev T K (tVar i) g r (.tup ds) r := ev_tux (ev_var h)
/-! ### elements -/
def ElD (T : Tb) (K : PySem.W.Frag) (el : ER) (g : G) (r : Rs) (x v : D) : Prop := ∀ (rf : Rs) (Hs H : Hp) (σ : L2.St), SR T K Hs H σ g (r ++ rf) → ∀ u, DR K Hs u x → ∃ w, DR K Hs w v ∧ el σ H u w
theorem el_item : ElD T K elItem g r x x := fun rf Hs H σ s u ru => ⟨u, ru, rfl⟩
theorem el_var (h : g[i]? = some (some d)) : ElD T K (elVar i) g r x d := fun rf Hs H σ s u ru => by
  obtain ⟨v, h1, h2⟩ := s.sl i _ h
  exact ⟨v, h2, h1⟩
theorem el_int {n : Int} : ElD T K (elC (.int n)) g r x (.int n) := fun rf Hs H σ s u ru => ⟨_, .int n, rfl⟩
theorem el_str {n : Str} : ElD T K (elC (.str n)) g r x (.str n) := fun rf Hs H σ s u ru => ⟨_, .str n, rfl⟩
theorem el_add {a b : ER} {m n : Int} (ha : ElD T K a g r x (.int m)) (hb : ElD T K b g r x (.int n)) : ElD T K (elAdd a b) g r x (.int (m + n)) := fun rf Hs H σ s u ru => by
  obtain ⟨v, h1, h2⟩ := ha rf Hs H σ s u ru
  obtain ⟨w, h3, h4⟩ := hb rf Hs H σ s u ru
  cases h1
  cases h3
  exact ⟨_, .int _, m, n, h2, h4, rfl⟩
theorem el_sub {a b : ER} {m n : Int} (ha : ElD T K a g r x (.int m)) (hb : ElD T K b g r x (.int n)) : ElD T K (elSub a b) g r x (.int (m - n)) := fun rf Hs H σ s u ru => by
  obtain ⟨v, h1, h2⟩ := ha rf Hs H σ s u ru
  obtain ⟨w, h3, h4⟩ := hb rf Hs H σ s u ru
  cases h1
  cases h3
  exact ⟨_, .int _, m, n, h2, h4, rfl⟩
theorem el_ixT {a b : ER} {n : Int} (ha : ElD T K a g r x (.tup ds)) (hb : ElD T K b g r x (.int n)) (h : atI ds n = some d) : ElD T K (elIxT K a b) g r x d := fun rf Hs H σ s u ru => by
  obtain ⟨v, h1, h2⟩ := ha rf Hs H σ s u ru
  obtain ⟨w, h3, h4⟩ := hb rf Hs H σ s u ru
  obtain ⟨p, xs, rfl, h5, h6⟩ := h1.tupI
  cases h3
  obtain ⟨z, h7, h8⟩ := h6.at h
  exact ⟨z, h8, p, xs, n, h2, h4, s.ex.st h5, h7⟩
theorem el_weak {a : ER} (ha : ElD T K a g r x (.tux ds)) : ElD T K a g r x (.tup ds) := fun rf Hs H σ s u ru => by
  obtain ⟨v, h1, h2⟩ := ha rf Hs H σ s u ru
  exact ⟨v, h1.weakT, h2⟩
theorem el_idxT {a b : ER} {ns : List Int} {n : Int} (ha : ElD T K a g r x (.tux (ns.map D.int))) (hb : ElD T K b g r x (.int n)) (h : n ∈ ns) : ElD T K (elIdxT K a b) g r x (.int ((ns.idxOf n : Nat) : Int)) := fun rf Hs H σ s u ru => by
  obtain ⟨v, h1, h2⟩ := ha rf Hs H σ s u ru
  obtain ⟨w, h3, h4⟩ := hb rf Hs H σ s u ru
  cases h3
  cases h1 with
  | tux h5 h6 h7 =>
    have e := DRs.ints_inv h7
    subst e
    exact ⟨_, .int _, _, _, ns, n, h2, h4, s.ex.keep _ _ h5 (fun _ z => nomatch z), h6, h, True.intro, rfl⟩
theorem el_idxS {a b : ER} {zs ys : Str} {n : Nat} {rest : List Nat} (ha : ElD T K a g r x (.str zs)) (hb : ElD T K b g r x (.str ys)) (h : Builtin.Str.occurrences zs ys 0 zs.length 1 = n :: rest) : ElD T K (elIdxS a b) g r x (.int ((n : Nat) : Int)) := fun rf Hs H σ s u ru => by
  obtain ⟨v, h1, h2⟩ := ha rf Hs H σ s u ru
  obtain ⟨w, h3, h4⟩ := hb rf Hs H σ s u ru
  cases h1
  cases h3
  exact ⟨_, .int _, zs, _, _, rest, h2, h4, h, rfl⟩
theorem el_notInS {a b : ER} {zs : Str} {c : Nat} (ha : ElD T K a g r x (.str ⟨#[c]⟩)) (hb : ElD T K b g r x (.str zs)) : ElD T K (elNotInS a b) g r x (.bl (!decide (c ∈ zs.cps.toList))) := fun rf Hs H σ s u ru => by
  obtain ⟨v, h1, h2⟩ := ha rf Hs H σ s u ru
  obtain ⟨w, h3, h4⟩ := hb rf Hs H σ s u ru
  cases h1
  cases h3
  exact ⟨_, .bl _, c, zs, h2, h4, rfl⟩
/-! ### what is walked -/
def IwD (T : Tb) (K : PySem.W.Frag) (iw : V → Hp → List V → Prop) (x : D) (g : G) (r : Rs) (ds : List D) : Prop := ∀ (rf : Rs) (Hs H : Hp) (σ : L2.St) (v : V), SR T K Hs H σ g (r ++ rf) → DR K Hs v x → ∃ xs, iw v H xs ∧ DRs K Hs xs ds
theorem iwd_str {zs : Str} : IwD T K iwS (.str zs) g r (zs.cps.toList.map sgn) := fun rf Hs H σ v s rv => by
  cases rv
  refine ⟨_, ⟨zs, rfl, rfl⟩, ?_⟩
  have := DRs.strs (K := K) (H := Hs) (zs.cps.toList.map fun c => (⟨#[c]⟩ : Str))
  rw [List.map_map, List.map_map] at this
  exact this
theorem iwd_tup : IwD T K (iwT K) (.tup ds) g r ds := fun rf Hs H σ v s rv => by
  obtain ⟨p, xs, rfl, h1, h2⟩ := rv.tupI
  exact ⟨xs, ⟨p, rfl, s.ex.st h1⟩, h2⟩
theorem iwd_lst (h : Vl x r ds) : IwD T K (iwL K) x g r ds := fun rf Hs H σ v s rv => by
  obtain ⟨p, xs, rfl, h1, h2⟩ := h.at s rv
  exact ⟨xs, ⟨p, rfl, Evl.sq_of h1⟩, h2⟩
theorem SR.tabbed {rf : Rs} {Hs H H2 : Hp} {σ : L2.St} (s : SR T K Hs H σ g (r ++ rf)) (hP : P ∈ T.gs) (h : Tabbed P H H2) : SR T K Hs H2 σ g (r ++ rf) := s.grow (Ext.tab hP h (s.wfH.g P hP))
/-- the elements -/
theorem el_all {el : ER} {Hs H : Hp} {rf : Rs} {σ : L2.St} {xs : List V} {fd : D → D} (s : SR T K Hs H σ g (r ++ rf)) (hx : DRs K Hs xs ds) (h : ∀ d ∈ ds, ElD T K el g r d (fd d)) :
    ∃ f : Nat → V, (∀ i x, xs[i]? = some x → el σ H x (f i)) ∧ DRs K Hs ((List.range xs.length).map f) (ds.map fd) ∧ ∀ (i : Nat) d, ds[i]? = some d → DR K Hs (f i) (fd d) := by
  have h1 : ∀ i : Nat, ∃ w : V, ∀ x d, xs[i]? = some x → ds[i]? = some d → el σ H x w ∧ DR K Hs w (fd d) := by
    intro i
    cases hi : ds[i]? with
    | none => exact ⟨.non, fun x d _ e => by cases e⟩
    | some d =>
      obtain ⟨v, h2, h3⟩ := hx.get hi
      obtain ⟨w, h4, h5⟩ := h d (List.mem_of_getElem? hi) rf Hs H σ s v h3
      exact ⟨w, fun x d' e1 e2 => by rw [h2] at e1; cases e1; cases e2; exact ⟨h5, h4⟩⟩
  obtain ⟨f, hf⟩ := Classical.skolem.mp h1
  refine ⟨f, fun i x e => ?_, ?_, fun i d e => ?_⟩
  · obtain ⟨d, e1, e2⟩ := hx.get' e
    exact (hf i x d e e1).1
  · have hl := hx.length
    have key : ∀ n, n ≤ xs.length → DRs K Hs ((List.range n).map f) ((ds.take n).map fd) := by
      intro n
      induction n with
      | zero => intro _; exact .nil
      | succ n ih =>
        intro hn
        have hd : n < ds.length := by omega
        rw [List.range_succ, List.map_append, List.take_succ, List.getElem?_eq_getElem hd, List.map_append]
        exact (ih (by omega)).append (.cons (hf n _ _ (List.getElem?_eq_getElem (by omega)) (List.getElem?_eq_getElem hd)).2 .nil)
    have := key xs.length (Nat.le_refl _)
    rw [hl, List.take_length] at this
    rw [hl]
    exact this
  · obtain ⟨v, e1, e2⟩ := hx.get e
    exact (hf i v d e1 e).2
theorem any_range {b : Nat → Bool} {c : D → Bool} (h : ∀ (i : Nat) d, ds[i]? = some d → b i = c d) : (List.range ds.length).any b = ds.any c := by
  rw [Bool.eq_iff_iff, List.any_eq_true, List.any_eq_true]
  constructor
  · rintro ⟨i, h1, h2⟩
    have hl := List.mem_range.mp h1
    rw [h i _ (List.getElem?_eq_getElem hl)] at h2
    exact ⟨_, List.getElem_mem hl, h2⟩
  · rintro ⟨d, h1, h2⟩
    obtain ⟨i, hi, e⟩ := List.getElem_of_mem h1
    refine ⟨i, List.mem_range.mpr hi, ?_⟩
    rw [h i d (by rw [List.getElem?_eq_getElem hi, e])]
    exact h2
theorem ev_anyGen {iw : V → Hp → List V → Prop} {el : ER} {b : D → Bool} (hP : P ∈ T.gs) (h : Ev T K te g r x r1) (hw : IwD T K iw x g r1 ds) (he : ∀ d ∈ ds, ElD T K el g r1 d (.bl (b d))) : Ev T K (tGAny P iw el te) g r (.bl (ds.any b)) r1 := fun rf Hs H σ s Q q =>
  h rf Hs H σ s _ fun v Hs1 H1 e1 s1 rv => by
    obtain ⟨xs, h1, h2⟩ := hw rf Hs1 H1 σ v s1 rv
    obtain ⟨f, f1, f2, f3⟩ := el_all (fd := fun d => .bl (b d)) s1 h2 he
    have hl := h2.length
    refine ⟨xs, h1, s1.wfH.g P hP, f, f1, fun i => match ds[i]? with | some d => b d | none => false, fun i hi => ?_, fun H2 hT => ?_⟩
    · have hd : i < ds.length := by omega
      have := f3 i _ (List.getElem?_eq_getElem hd)
      show f i = V.bl (match ds[i]? with | some d => b d | none => false)
      rw [List.getElem?_eq_getElem hd]
      generalize f i = w at this
      cases this
      rfl
    · rw [hl, any_range (c := b) (fun i d e => by rw [e])]
      exact q _ Hs1 H2 e1 (s1.tabbed hP hT) (.bl _)
theorem ev_tupGen {iw : V → Hp → List V → Prop} {el : ER} {fd : D → D} (hP : P ∈ T.gs) (h : Ev T K te g r x r1) (hw : IwD T K iw x g r1 ds) (he : ∀ d ∈ ds, ElD T K el g r1 d (fd d)) (hz : ds.length ≤ 100000) : Ev T K (tGTup P iw el te) g r (.tux (ds.map fd)) r1 := fun rf Hs H σ s Q q =>
  h rf Hs H σ s _ fun v Hs1 H1 e1 s1 rv => by
    obtain ⟨xs, h1, h2⟩ := hw rf Hs1 H1 σ v s1 rv
    obtain ⟨f, f1, f2, f3⟩ := el_all (fd := fd) s1 h2 he
    have hl := h2.length
    refine ⟨xs, h1, s1.wfH.g P hP, f, f1, by omega, fun H2 hT p o hp ho => ?_⟩
    obtain ⟨s3, e3⟩ := (s1.tabbed hP hT).alloc (o := .frz o (.tup ((List.range xs.length).map f))) hp True.intro
    exact q _ _ _ (e1.trans e3) s3 (.tux upd_same ho (DRs.mono e3 _ f2))
end
def SIGNS : Str := "1234567890ET"
theorem occ_signs : ∀ c ∈ SIGNS.cps.toList, Builtin.Str.occurrences SIGNS ⟨#[c]⟩ 0 SIGNS.length 1 = [SIGNS.cps.toList.idxOf c] := by decide +kernel
end DL
namespace L2
open PySem PySem.Spec PyProof.Rows HT
/-- tuple(xs) of a list: the new tuple's object is told -/
def kTupX (K : PySem.W.Frag) (x : V) (H : Hp) (Q : VK) : Prop :=
  ∃ p xs, x = .ref p ∧ SqL K H p xs ∧ ∀ (q : Addr) (o : Obj), H q = none → o.dict = none → Q (.ref q) (upd H q (.frz o (.tup xs)))
section
variable {X : Cx} {a b c : Expr} {ta tb tc te : TE}
theorem pe_tupX {p pos : Pos} (hg : Gl X "tuple") (hm : X.mg "tuple" = none) (ha : PE X a ta) (na : starEach [a] X.env = (false, eval a X.env) :: starEach [] X.env := by rfl) :
    PE X (.Call (.Name "tuple" p) [a] [] pos) (tThen ta (kTupX X.K)) := by
  refine ⟨fun pins s σ H Q I h => ?_⟩
  refine Call_ (ld_blt I hg hm boot_tuple (PyProof.Rows.callWith_type1 (one_arg ha I h (fun v s2 x H2 I2 r h => ?_) na) na))
  obtain ⟨p, xs, rfl, hs, q⟩ := h
  obtain rfl : v = .ref p := r
  obtain ⟨its, rv, pl, hz⟩ := I2.list hs
  refine call_tuple_list pl.isList (fun h' hk => ?_) (by rw [List.size_toArray, ← rv.length]; exact hz)
  have I3 : Inv X pins σ H2 { s2 with heap := h' } := I2.kept (t' := s2.toks) hk
  have I4 : Inv X pins σ (upd H2 h'.objs.size (.frz { cls := .type "tuple", data := .seq its.toArray } (.tup xs))) { s2 with heap := h'.push { cls := .type "tuple", data := .seq its.toArray } } :=
    I3.laid (t' := s2.toks) (fun b o e => Heap.get?_push_of_some _ e) (Nat.le_refl _) ⟨Heap.get?_push_size _ rfl, hz, its, rv, IsTup.new _ _⟩
  exact ⟨.ref h'.objs.size, _, I4, rfl, q _ _ (I3.hok.fresh (Nat.le_refl _)) rfl⟩
/-- tuple(range(a, b, c)) -/
def tTupRg3 (ta : TA) : TE := fun σ H Q => ta σ H fun vs H1 => ∃ (i j c : Int) (n : Nat), vs = [.int i, .int j, .int c] ∧ RgC i j c n ∧ n ≤ 100000 ∧
  ∀ p, H1 p = none → Q (.ref p) (upd H1 p (.tup ((List.range n).map fun (m : Nat) => V.int (i + (m : Int) * c))))
theorem pe_tupRg3 {tt : TA} {p p2 pos pos2 : Pos} (hc : X.calm = true) (hg : Gl X "tuple") (hm : X.mg "tuple" = none) (hg2 : Gl X "range") (hm2 : X.mg "range" = none) (ha : PA X [a, b, c] tt)
    (hs : starEach [a, b, c] X.env = (false, eval a X.env) :: starEach [b, c] X.env := by rfl) (hpl : (backTo pos2 (starEach [b, c] X.env)).any (·.1) = false := by rfl)
    (na : starEach [.Call (.Name "range" p2) [a, b, c] [] pos2] X.env = (false, eval (.Call (.Name "range" p2) [a, b, c] [] pos2) X.env) :: starEach [] X.env := by rfl) :
    PE X (.Call (.Name "tuple" p) [.Call (.Name "range" p2) [a, b, c] [] pos2] [] pos) (tTupRg3 tt) := by
  refine ⟨fun pins s σ H Q I h => ?_⟩
  refine Call_ (ld_blt I hg hm boot_tuple (PyProof.Rows.callWith_type1 (args_cons ?_ na) na))
  refine Call_ (ld_blt I hg2 hm2 boot_range (PyProof.Rows.callWith_type1 (thn (ha.run pos2 pins s σ H _ I h) fun us s1 ⟨vs, H1, I1, r1, q1⟩ => ?_) hs hpl))
  obtain ⟨i, j, k, n, e, ⟨c0, c1, c2, c3⟩, hn, q⟩ := q1
  subst e
  cases r1 with
  | cons r rr =>
    cases rr with
    | cons r' rr =>
      cases rr with
      | cons r'' rr =>
        cases rr
        obtain ⟨t, rfl⟩ := r
        obtain ⟨t', rfl⟩ := r'
        obtain ⟨t'', rfl⟩ := r''
        refine call_range_3 c0 ?_ (.inl (PyProof.noPylong_small c1))
        refine args_nil ?_
        have I2 : Inv X pins σ H1 { s1 with heap := s1.heap.push { cls := .type "range", data := .fields #[.int i t, .int j t', .int k t''] } } := I1.kept (t' := s1.toks) fun b o e => Heap.get?_push_of_some _ e
        refine call_tuple_range (n := n) (I1.ok.hd hc) (IsRange.new ..) c2 c3 (by omega) fun h' tk acc hk hi => ?_
        have I3 : Inv X pins σ H1 { s1 with heap := h', toks := tk } := I2.kept hk
        refine ⟨.ref h'.objs.size, upd H1 h'.objs.size (.tup ((List.range n).map fun (m : Nat) => V.int (i + (m : Int) * k))), I3.laid (t' := tk) (fun c o e => Heap.get?_push_of_some _ e) (Nat.le_refl _) ⟨?_, acc.toList, ?_, ?_⟩, rfl, q _ (I3.hok.fresh (Nat.le_refl _))⟩
        · rw [List.length_map, List.length_range, sizeLine_eq]; omega
        · refine vals_of_at (by simp [hi.1]) fun m y u h1 h2 => ?_
          have h3 : acc[m]? = some u := by simpa using h2
          obtain ⟨t9, e9⟩ := hi.2 m u h3
          have hm : m < n := by
            have := (Array.getElem?_eq_some_iff.mp h3).1
            rw [hi.1] at this
            exact this
          rw [List.getElem?_map, List.getElem?_eq_getElem (by simpa using hm)] at h1
          simp at h1
          rw [← h1, e9]
          exact ⟨t9, rfl⟩
        · rw [Array.toArray_toList]; exact IsTup.new _ _
/-! ### slices with a step -/
def stepL {α : Type} (xs : List α) (lo : Option Int) (st : Int) : List α :=
  (List.range (Builtin.Slice.slicePlaces (Builtin.Slice.sliceAdjust lo none st xs.length).1 (Builtin.Slice.sliceAdjust lo none st xs.length).2 st)).filterMap fun (k : Nat) => xs[((Builtin.Slice.sliceAdjust lo none st xs.length).1 + (k : Int) * st).toNat]?
def tStepT (K : PySem.W.Frag) (te : TE) (tl : TO) (ts : TE) : TE := fun σ H Q => te σ H fun x H1 => tl σ H1 fun lo H2 => ts σ H2 fun y H3 => ∃ a xs st, x = .ref a ∧ y = .int st ∧ SqT K H3 a xs ∧ st ≠ 0 ∧ st ≠ 1 ∧ (stepL xs lo st).length ≤ 100000 ∧
  ∀ p, H3 p = none → Q (.ref p) (upd H3 p (.tup (stepL xs lo st)))
theorem getItem_tuple_step {prog : Program} {w : World} {A : Around} {E : Value → Shared → Prop} {s : Shared} {t sl : Addr} {its : List Value} {vl : Value} {lo : Option Int} {st : Int} {tst : Tok} {Q : Value → Shared → Prop} (ht : IsTup s.heap t its.toArray) (hs : s.heap.IsSliceOf sl vl .none (.int st tst)) (pl : IsPart vl lo)
    (h0 : st ≠ 0) (h1 : st ≠ 1) (h : Q (.ref s.heap.objs.size) { s with heap := s.heap.push { cls := .type "tuple", data := .seq (stepL its lo st).toArray } })
    (hsz : (stepL its lo st).length ≤ sizeLine) : wpAny (model prog w) A (getItem (.ref t) (.ref sl)) Q E s := by
  have htake : sizeOk (.seq (stepL its lo st).toArray) := by
    show (stepL its lo st).toArray.size ≤ sizeLine
    rw [List.size_toArray]
    exact hsz
  obtain ⟨os, hos, hcs, hds⟩ := id hs
  have hTs : s.TypeIs (.ref sl) "slice" := ⟨os, hos, hcs⟩
  unfold getItem
  try with_reducible refine wpAny_holding ?_
  first | refine wpAny_bind (wpAny_pure ?_) | skip
  refine wpAny_bind (wpAny_sequenceKey ht.typeIs (by decide) ?_)
  refine wpAny_bind (wpAny_callSpecial?_slot (name := Str.ofString "__getitem__") ht.typeIs PyProof.Rows.slot_tuple_getitem
    (wpAny_call_entry PyProof.Rows.slot_tuple_getitem ht.typeIs entry_tuple_getitem ?_ (args_tuple_getitem _ _)))
  show wpAny _ _ (Builtin.Tuple.tupleItemsOf (.ref t) >>= _) _ _ s
  refine wpAny_bind (tupleItemsOf_ ht ?_)
  refine wpAny_bind (wpAny_typeOf hTs ?_)
  rw [if_pos (by decide)]
  have happ : ∀ (Q' : Int × Int × Nat → Shared → Prop), Q' ((Builtin.Slice.sliceAdjust lo none st its.length).1, st, Builtin.Slice.slicePlaces (Builtin.Slice.sliceAdjust lo none st its.length).1 (Builtin.Slice.sliceAdjust lo none st its.length).2 st) s →
      wpAny (model prog w) A.in1 (Builtin.Slice.sliceApplied (.ref sl) (pure (its.toArray.size : Int))) Q' E s := by
    intro Q' hq
    unfold Builtin.Slice.sliceApplied Builtin.Slice.sliceFields
    refine wpAny_bind (wpAny_bind (wpAny_field hos hds (x := vl) rfl (wpAny_bind (wpAny_field hos hds (x := .none) rfl (wpAny_bind (wpAny_field hos hds (x := .int st tst) rfl (wpAny_pure ?_)))))))
    refine wpAny_bind (slicePart_int ?_)
    show wpAny _ _ (if (st == 0) = true then _ else _) _ _ s
    rw [if_neg (by simpa using h0)]
    refine wpAny_bind (slicePart_ pl (wpAny_bind (slicePart_none (wpAny_bind (wpAny_pure ?_)))))
    show wpAny _ _ (match Builtin.Slice.sliceAdjust lo none st (its.toArray.size : Int) with | (lo, hi) => pure (lo, st, Builtin.Slice.slicePlaces lo hi st)) _ _ s
    rw [List.size_toArray]
    exact wpAny_pure hq
  refine wpAny_bind (happ _ ?_)
  have hno : ¬ (((Builtin.Slice.sliceAdjust lo none st its.length).1 == 0 && st == 1 && (Builtin.Slice.slicePlaces (Builtin.Slice.sliceAdjust lo none st its.length).1 (Builtin.Slice.sliceAdjust lo none st its.length).2 st) == its.toArray.size) = true) := by
    intro q
    rw [Bool.and_eq_true, Bool.and_eq_true] at q
    exact h1 (eq_of_beq q.1.2)
  show wpAny _ _ (if ((Builtin.Slice.sliceAdjust lo none st its.length).1 == 0 && st == 1 && (Builtin.Slice.slicePlaces (Builtin.Slice.sliceAdjust lo none st its.length).1 (Builtin.Slice.sliceAdjust lo none st its.length).2 st) == its.toArray.size) = true then _ else _) _ _ s
  rw [if_neg hno]
  have epick : ((List.range (Builtin.Slice.slicePlaces (Builtin.Slice.sliceAdjust lo none st its.length).1 (Builtin.Slice.sliceAdjust lo none st its.length).2 st)).filterMap fun (k : Nat) => its.toArray[((Builtin.Slice.sliceAdjust lo none st its.length).1 + (k : Int) * st).toNat]?).toArray = (stepL its lo st).toArray := by
    unfold stepL
    simp
  rw [epick]
  first
    | exact wpAny_bind (m := Builtin.Tuple.tupleExact _) (wpAny_newObj_type (wpAny_pure ⟨_, rfl, wpAny_pure h⟩) htake)
    | exact wpAny_bind (m := Builtin.Tuple.tupleExact _) (wpAny_newObj_type (wpAny_bind (wpAny_pure (wpAny_pure ⟨_, rfl, wpAny_pure h⟩))) htake)
    | exact wpAny_bind (wpAny_bind (m := Builtin.Tuple.tupleExact _) (wpAny_newObj_type (wpAny_pure (wpAny_pure ⟨_, rfl, wpAny_pure h⟩)) htake))
    | exact wpAny_bind (wpAny_bind (m := Builtin.Tuple.tupleExact _) (wpAny_newObj_type (wpAny_pure ⟨_, rfl, wpAny_pure h⟩) htake))
theorem vals_pick {xs : List V} {its : List Value} (r : Vals xs its) (f : Nat → Nat) : ∀ ks : List Nat, Vals (ks.filterMap fun k => xs[f k]?) (ks.filterMap fun k => its[f k]?) := by
  intro ks
  induction ks with
  | nil => exact .nil
  | cons k ks ih =>
    rw [List.filterMap_cons, List.filterMap_cons]
    cases h : xs[f k]? with
    | none =>
      rw [r.none_of h]
      exact ih
    | some x =>
      obtain ⟨u, h1, h2⟩ := r.get h
      rw [h1]
      exact .cons h2 ih
theorem stepL_len {α β : Type} (xs : List α) (ys : List β) (h : xs.length = ys.length) (lo : Option Int) (st : Int) : (stepL xs lo st).length = (stepL ys lo st).length := by
  unfold stepL
  rw [h]
  generalize List.range _ = ks
  induction ks with
  | nil => rfl
  | cons k ks ih =>
    rw [List.filterMap_cons, List.filterMap_cons]
    generalize ((Builtin.Slice.sliceAdjust lo none st ↑ys.length).1 + (k : Int) * st).toNat = m
    by_cases hm : m < ys.length
    · rw [List.getElem?_eq_getElem hm, List.getElem?_eq_getElem (by omega)]
      simp [ih]
    · rw [List.getElem?_eq_none (by omega), List.getElem?_eq_none (by omega)]
      exact ih
theorem pe_stepT {e st : Expr} {lower : Option Expr} {tl : TO} {ts : TE} {p3 pos : Pos} (he : PE X e te) (hl : PO X lower tl) (hst : PE X st ts)
    (hsub : ∀ o i, subscripted (.Slice lower none (some st) p3) false o i = operate [o, i] (getItem o i) := by with_unfolding_all intro o i; rfl) :
    PE X (.Subscript e (.Slice lower none (some st) p3) pos) (tStepT X.K te tl ts) := by
  refine ⟨fun pins s σ H Q I h => ?_⟩
  refine Subscript_ (thn (he.run pins s σ H _ I h) fun v s1 ⟨x, H1, I1, r1, q1⟩ => ?_)
  refine wpAny_Slice (thn (hl.run pins s1 σ H1 _ I1 q1) fun vl s2 ⟨l, H2, I2, pl, q2⟩ => ?_)
  refine thn (po_none.run pins s2 σ H2 (fun o H3 => o = none ∧ H3 = H2) I2 ⟨rfl, rfl⟩) fun vu s3 ⟨u, H3, I3, pu, eu, e3⟩ => ?_
  subst eu e3
  refine thn (hst.run pins s3 σ H3 _ I3 q2) fun vs s4 ⟨o, H4, I4, rs, a, xs, st', e1, e2, hx, h0, h1, hz, q⟩ => ?_
  subst e1 e2
  cases r1
  obtain ⟨tk, rfl⟩ := rs
  cases pu
  have I5 : Inv X pins σ H4 { s4 with heap := s4.heap.push { cls := .type "slice", data := .fields #[vl, .none, .int st' tk] } } := I4.kept (t' := s4.toks) fun b ob q => Heap.get?_push_of_some _ q
  obtain ⟨its, r, ht, _⟩ := I5.tuple hx
  have hlen := r.length
  have e9 := stepL_len xs its hlen l st'
  show wpAny (model X.prog X.w) X.A (subscriptTail e (.Slice lower none (some st) p3) (.ref a) (.ref s4.heap.objs.size)) (EP X pins σ Q) X.xe { s4 with heap := s4.heap.push { cls := .type "slice", data := .fields #[vl, .none, .int st' tk] } }
  refine tail_any (ops := [.ref a, .ref s4.heap.objs.size]) ht.typeIs (slot_tuple_getitem.lookup) ?_ (hsub _ _)
  refine getItem_tuple_step ht (Heap.IsSliceOf.new _ vl .none (.int st' tk)) pl h0 h1 ?_ (by rw [← e9]; exact Evl.sz_of hz)
  refine ⟨.ref _, _, I5.laid (t' := s4.toks) (o := .tup (stepL xs l st')) (fun b ob q => Heap.get?_push_of_some _ q) (Nat.le_refl _) ?_, rfl, q _ (I5.hok.fresh (Nat.le_refl _))⟩
  refine ⟨Evl.sz_of hz, stepL its l st', ?_, IsTup.new _ _⟩
  unfold stepL
  rw [hlen]
  exact vals_pick r _ _
/-! ### min of a tuple -/
def rMinT (K : PySem.W.Frag) : List V → Hp → VK → Prop := fun vs H Q => ∃ (a : Addr) (ns : List Int), vs = [V.ref a] ∧ SqT K H a (ns.map V.int) ∧ 0 < ns.length ∧ ∀ m, m ∈ ns → (∀ y, y ∈ ns → m ≤ y) → Q (.int m) H
theorem min_rawT {prog : Program} {w : World} {A : Around} {E : Value → Shared → Prop} {s : Shared} {l : Addr} {its : List Value} {ns : List Int} {Q : Value → Shared → Prop} (hh : A.handled = none) (hl : IsTup s.heap l its.toArray) (hi : IntsAre its ns) (hne : 0 < ns.length)
    (h : ∀ h' tk M t', (∀ b o, s.heap.get? b = some o → h'.get? b = some o) → M ∈ ns → (∀ a, a ∈ ns → M ≤ a) → Q (.int M t') { s with heap := h', toks := tk }) : wpAny (model prog w) A (call (.builtin "min") [.ref l]) Q E s := by
  obtain ⟨xs, e⟩ := hi.allInts.items
  have hn : numsOf (intItems xs).toList = ns := by rw [← e]; exact hi.numsOf
  rw [nums_intItems] at hn
  subst hn
  rw [e] at hl
  have hsz : 0 < xs.size := by simpa using hne
  have hlt : l < s.heap.objs.size := let ⟨o, ho, _⟩ := hl; Heap.lt_size ho
  refine call_min_walk (wpAny_pyIter_tuple hl ?_)
  refine ⟨_, [_, l], _, _, _, _, _, rfl, Walks.tuple (A := A.in1) hh _ l (Nat.ne_of_lt hlt) (intItems xs), ⟨⟨_, Heap.get?_push_size _ rfl, rfl, rfl⟩, hl.push _⟩, fun c hc => ?_, by simpa [intItems] using hsz, CmpOf.ints_lt (numAt xs) (fun _ _ => intItems_at), fun v h' tk hP hk => ?_⟩
  · show c < (s.heap.push _).objs.size
    rw [Heap.size_push]
    rcases List.mem_cons.mp hc with rfl | hc
    · exact Nat.lt_succ_self _
    · rcases List.mem_cons.mp hc with rfl | hc
      · exact Nat.lt_succ_of_lt hlt
      · cases hc
  · have hv : (intItems xs)[argBest (fun i j => decide (numAt xs i < numAt xs j)) (xs.size - 1)]? = some v := by simpa [intItems] using hP
    obtain ⟨t, rfl⟩ := intItems_at hv
    obtain ⟨h1, h2⟩ := argBest_lt (numAt xs) (xs.size - 1)
    refine h h' tk _ t (fun b o e => hk b o ?_ (Heap.get?_push_of_some _ e)) ?_ fun a ha => ?_
    · simp only [List.mem_singleton]
      exact Nat.ne_of_lt (Heap.lt_size e)
    · rw [numAt_eq]; exact PySem.getD_mem (by rw [List.length_map, Array.length_toList]; omega)
    · obtain ⟨j, hj, rfl⟩ := mem_getD ha
      rw [List.length_map, Array.length_toList] at hj
      rw [← numAt_eq]; exact h2 j (by omega)
theorem cr_minT (hc : X.calm = true) : CallR X (.builtin "min") (rMinT X.K) := by
  intro pins s σ H vs us Q I r h
  obtain ⟨a, ns, rfl, hs, hne, q⟩ := h
  obtain ⟨its, rv, hl, _⟩ := I.tuple hs
  rw [Vals.ref1 r]
  exact min_rawT (I.ok.hd hc) hl rv.ints hne fun h' tk m t' hk h1 h2 => ⟨.int _, H, I.kept hk, ⟨_, rfl⟩, q m h1 h2⟩
end
/-! ### sum of lists -/
section
variable {prog : Program} {w : World} {A : Around} {I : Addr} {fp wr : List Addr} {n : Nat} {P : Nat → Value → Prop} {St : Nat → Heap → Prop}
theorem args_sum2 (a b : Value) : argsOk "sum" ⟨[a, b], []⟩ := by unfold argsOk; kernel_rfl
/-- the items' lists, in the heap h -/
def SumL (h : Heap) (P : Nat → Value → Prop) (n : Nat) (f : Nat → List Value) : Prop := ∀ i v, P i v → ∃ (b : Addr) (m : Nat), v = .ref b ∧ h.get? b = some { cls := .type "list", data := .seq (f i).toArray m }
def preL (f : Nat → List Value) : Nat → List Value
  | 0 => []
  | j + 1 => preL f j ++ f j
theorem codeAny_sum_lists {R : Result → Shared → Prop} {h0 : Heap} {f : Nat → List Value} (W : Walks prog w A.in1 I fp wr n P St) (S : Addr) (hfS : ∀ b ∈ fp, b < S) (hS0 : h0.get? S = none) (hw0 : ∀ b ∈ wr, h0.get? b = none) (hv : SumL h0 P n f) (hz : ∀ j ≤ n, (preL f j).length ≤ 100000) :
    ∀ (k i : Nat) (s : Shared) (a : Addr) (m c : Nat), n - i = k → i ≤ n → St i s.heap → (∀ b o, h0.get? b = some o → s.heap.get? b = some o) → a ≠ S → a ∉ wr → (i = 0 ∨ S < a) → s.heap.get? a = some { cls := .type "list", data := .seq (preL f i).toArray m } →
    s.heap.get? S = some { cls := .type "list", dict := none, data := .seq #[.ref a] c, slots := #[] } →
    (∀ h' tk a' m', (∀ b o, h0.get? b = some o → h'.get? b = some o) → h'.get? a' = some { cls := .type "list", data := .seq (preL f n).toArray m' } → (n = 0 ∨ S < a') → R (.ok (.ret (.ref a'))) { s with heap := h', toks := tk }) →
    codeAny (model prog w) A (.builtin "sum.loop" ⟨[.ref I, .ref S, rawInt 2, rawInt 0], []⟩) R s := by
  have hSf : S ∉ fp := fun h => Nat.lt_irrefl _ (hfS _ h)
  have hSw : S ∉ wr := fun h => hSf (W.sub _ h)
  intro k
  induction k with
  | zero =>
    intro i s a m c hk hi hst hk0 haS haw haf ha hS hR
    have hin : i = n := by omega
    subst hin
    refine codeAny_builtin F.entry_sum_loop ?_
    rw [Around.under_plainId F.plain_sum_loop _]
    show wpAny _ A.in1 (seqItems? (.ref S) >>= _) _ _ s
    refine wpAny_bind (wpAny_seqItems hS rfl ?_)
    show wpAny _ A.in1 (tryCatch (pyNext (.ref I)) _ >>= _) _ _ s
    refine wpAny_bind (wpAny_tryCatch (W.done s _ _ hst fun h' tk hk' => ?_))
    exact wpAny_pure (hR h' tk a m (fun b o e => hk' b o (fun hb => by rw [hw0 b hb] at e; cases e) (hk0 b o e)) (hk' a _ haw ha) haf)
  | succ k ih =>
    intro i s a m c hk hi hst hk0 haS haw haf ha hS hR
    have hlt : i < n := by omega
    refine codeAny_builtin F.entry_sum_loop ?_
    rw [Around.under_plainId F.plain_sum_loop _]
    show wpAny _ A.in1 (seqItems? (.ref S) >>= _) _ _ s
    refine wpAny_bind (wpAny_seqItems hS rfl ?_)
    show wpAny _ A.in1 (tryCatch (pyNext (.ref I)) _ >>= _) _ _ s
    refine wpAny_bind (wpAny_tryCatch (W.item i s _ _ hlt hst fun v h' tk hP hst' hk' => ?_))
    obtain ⟨b, mb, rfl, hb⟩ := hv i v hP
    have hb' : h'.get? b = some { cls := .type "list", data := .seq (f i).toArray mb } := hk' b _ (fun hbw => by rw [hw0 b hbw] at hb; cases hb) (hk0 b _ hb)
    have ha' := hk' a _ haw ha
    have hS' := hk' S _ hSw hS
    have hlen : (preL f (i + 1)).length = (preL f i).length + (f i).length := by
      show (preL f i ++ f i).length = _
      rw [List.length_append]
    have hz1 := hz (i + 1) hlt
    have hsz := sizeLine_eq
    show wpAny _ A.in1 ((holding [Value.ref b] (binaryOp .Add (.ref a) (.ref b))).attempt >>= _) _ _ _
    refine wpAny_bind (wpAny_attempt (wpAny_holding (PySem.P.add_list (n := m) (n2 := mb) ha' hb' ?_ (by rw [List.size_toArray, List.size_toArray]; omega))))
    have hSlt : S < h'.objs.size := Heap.lt_size hS'
    have hSp : (h'.push { cls := .type "list", data := .seq ((preL f i).toArray ++ (f i).toArray) }).get? S = some { cls := .type "list", dict := none, data := .seq #[.ref a] c, slots := #[] } := Heap.get?_push_of_some _ hS'
    show wpAny _ A.in1 (updateSeq S (fun _ => #[.ref h'.objs.size]) >>= _) _ _ _
    refine wpAny_bind (wpAny_updateSeq hSp rfl ?_)
    have hS₂ := Heap.get?_update_self (Obj.mapSeq fun _ => #[Value.ref h'.objs.size]) hSp rfl
    refine wpAny_bind (wpAny_letGo ?_)
    refine wpAny_bind (wpAny_updateSeq hS₂ rfl ?_)
    have hnew : (h'.push { cls := .type "list", data := .seq ((preL f i).toArray ++ (f i).toArray) }).get? h'.objs.size = some { cls := .type "list", data := .seq (preL f (i + 1)).toArray 0 } := by
      have e : (preL f i).toArray ++ (f i).toArray = (preL f (i + 1)).toArray := by
        show _ = (preL f i ++ f i).toArray
        simp
      rw [e]
      exact Heap.get?_push_size _ rfl
    have hnS : S ≠ h'.objs.size := Nat.ne_of_lt hSlt
    have nw : h'.objs.size ∉ wr := fun h => Nat.lt_asymm hSlt (hfS _ (W.sub _ h))
    refine wpAny_pure ⟨plainId_quiet F.plain_sum_loop _, ih (i + 1) _ h'.objs.size 0 _ (by omega) hlt (W.frame _ _ _ hst' fun b hb o e => ?_) (fun b o e => ?_) (Ne.symm hnS) nw (Or.inr hSlt) ?_ (Heap.get?_update_self _ hS₂ rfl) fun h'' tk'' a'' m'' k1 k2 k3 => hR h'' tk'' a'' m'' k1 k2 k3⟩
    · exact (Heap.get?_update_other _ _ (fun h : S = b => hSf (by rw [h]; exact hb))).trans ((Heap.get?_update_other _ _ (fun h : S = b => hSf (by rw [h]; exact hb))).trans (Heap.get?_push_of_some _ e))
    · have nb : S ≠ b := fun h => by rw [← h, hS0] at e; cases e
      exact (Heap.get?_update_other _ _ nb).trans ((Heap.get?_update_other _ _ nb).trans (Heap.get?_push_of_some _ (hk' b o (fun hbw => by rw [hw0 b hbw] at e; cases e) (hk0 b o e))))
    · exact (Heap.get?_update_other _ _ hnS).trans ((Heap.get?_update_other _ _ hnS).trans hnew)
end
section
variable {prog : Program} {w : World} {A : Around} {E : Value → Shared → Prop} {s : Shared}
theorem sub_list_str : isSubtype (.type "list") (.type "str") = pure false := by rw [isSubtype_type]; kernel_rfl
theorem sub_list_bytes : isSubtype (.type "list") (.type "bytes") = pure false := by rw [isSubtype_type]; kernel_rfl
theorem sub_list_bytearray : isSubtype (.type "list") (.type "bytearray") = pure false := by rw [isSubtype_type]; kernel_rfl
theorem call_sum_lists {l b : Addr} {vs : List Value} {m0 : Nat} {f : Nat → List Value} {Q : Value → Shared → Prop} (hh : A.handled = none) (hl : s.heap.IsList l vs.toArray) (hb : s.heap.get? b = some { cls := .type "list", data := .seq #[] m0 }) (hn : 0 < vs.length)
    (hv : ∀ i v, vs[i]? = some v → ∃ (b : Addr) (m : Nat), v = .ref b ∧ s.heap.get? b = some { cls := .type "list", data := .seq (f i).toArray m }) (hz : ∀ j ≤ vs.length, (preL f j).length ≤ 100000)
    (hQ : ∀ h' tk a' m', (∀ b o, s.heap.get? b = some o → h'.get? b = some o) → h'.get? a' = some { cls := .type "list", data := .seq (preL f vs.length).toArray m' } → s.heap.objs.size ≤ a' → Q (.ref a') { s with heap := h', toks := tk }) :
    wpAny (model prog w) A (call (.builtin "sum") [.ref l, .ref b]) Q E s := by
  refine call_function_tree F.kind_sum F.plain_sum F.entry_sum (args_sum2 _ _) ?_
  unfold Builtin.«sum»
  simp only [List.length_cons, List.length_nil]
  rw [if_neg (by decide)]
  refine wpAny_bind (wpAny_of_eq (show Builtin.Builtins.bindParams "sum" ["start"] 0 { pos := [Value.ref b], kw := [] } = pure [some (.ref b)] from rfl) ?_)
  have hlt : l < s.heap.objs.size := let ⟨o, ho, _⟩ := hl; Heap.lt_size ho
  refine wpAny_bind (wpAny_pyIter_list hl ?_)
  refine wpAny_bind (wpAny_pure ?_)
  have hb1 : (s.heap.push { cls := .type "list_iterator", data := .fields #[.ref l, .int 0 0] }).get? b = some { cls := .type "list", data := .seq #[] m0 } := Heap.get?_push_of_some _ hb
  simp only [List.forIn_cons, List.forIn_nil]
  refine wpAny_bind (wpAny_bind (wpAny_bind (wpAny_isInstance (T := "list") (b := false) ⟨_, hb1, rfl⟩ sub_list_str ?_)))
  simp only [Bool.false_eq_true, if_false]
  refine wpAny_pure (wpAny_bind (wpAny_bind (wpAny_isInstance (T := "list") (b := false) ⟨_, hb1, rfl⟩ sub_list_bytes ?_)))
  simp only [Bool.false_eq_true, if_false]
  refine wpAny_pure (wpAny_bind (wpAny_bind (wpAny_isInstance (T := "list") (b := false) ⟨_, hb1, rfl⟩ sub_list_bytearray ?_)))
  simp only [Bool.false_eq_true, if_false]
  refine wpAny_pure (wpAny_pure ?_)
  refine wpAny_bind (wpAny_newObj_type ?_)
  have hp : (s.heap.push { cls := .type "list_iterator", data := .fields #[.ref l, .int 0 0] }).objs.size = s.heap.objs.size + 1 := Heap.size_push ..
  have hp1 : s.heap.objs.size < (s.heap.push { cls := .type "list_iterator", data := .fields #[.ref l, .int 0 0] }).objs.size := by rw [hp]; exact Nat.lt_succ_self _
  refine wpAny_pure ⟨plainId_quiet F.plain_sum_loop _, codeAny_sum_lists (h0 := s.heap) (f := f) (Walks.list (A := A.in1) hh s.heap.objs.size l (Nat.ne_of_lt hlt) vs.toArray) (s.heap.push { cls := .type "list_iterator", data := .fields #[.ref l, .int 0 0] }).objs.size (fun c hc => ?_) ?_ (fun c hc => ?_)
    (fun i v e => ?_) (fun j hj => hz j (by simpa using hj)) _ 0 _ b m0 0 rfl (Nat.zero_le _) ⟨⟨_, Heap.get?_push_of_some _ (Heap.get?_push_size _ rfl), rfl, rfl⟩, (hl.push _).push _⟩ (fun c o e => Heap.get?_push_of_some _ (Heap.get?_push_of_some _ e)) ?_ ?_ (Or.inl rfl) (Heap.get?_push_of_some _ hb1) (Heap.get?_push_size _ rfl) fun h' tk a' m' k1 k2 k3 => ?_⟩
  · rcases List.mem_cons.mp hc with rfl | hc
    · exact hp1
    · rcases List.mem_cons.mp hc with rfl | hc
      · exact Nat.lt_trans hlt hp1
      · cases hc
  · cases hg : s.heap.get? (s.heap.push { cls := .type "list_iterator", data := .fields #[.ref l, .int 0 0] }).objs.size with
    | none => rfl
    | some o => exact absurd (Heap.lt_size hg) (Nat.not_lt.mpr (Nat.le_of_lt hp1))
  · have : c = s.heap.objs.size := by simpa using hc
    subst this
    cases hg : s.heap.get? s.heap.objs.size with
    | none => rfl
    | some o => exact absurd (Heap.lt_size hg) (Nat.lt_irrefl _)
  · exact hv i v (by simpa using e)
  · exact Nat.ne_of_lt (Heap.lt_size hb1)
  · simp only [List.mem_singleton]
    exact Nat.ne_of_lt (Heap.lt_size hb)
  · have e : vs.toArray.size = vs.length := by simp
    rw [e] at k2 k3
    refine hQ h' tk a' m' k1 k2 ?_
    rcases k3 with z | z
    · omega
    · exact Nat.le_of_lt (Nat.lt_trans hp1 z)
/-- sum(xs, []), xs a list of lists, not empty -/
def rSumL (K : PySem.W.Frag) : List V → Hp → VK → Prop := fun vs H Q => ∃ (a b : Addr) (ps : List Addr) (xss : List (List V)), vs = [V.ref a, V.ref b] ∧ SqL K H a (ps.map V.ref) ∧ H b = some (.lst []) ∧ ps ≠ [] ∧ ps.length = xss.length ∧ (∀ (i : Nat) p xs, ps[i]? = some p → xss[i]? = some xs → H p = some (.lst xs)) ∧ xss.flatten.length ≤ 100000 ∧
  ∀ p, H p = none → Q (.ref p) (upd H p (.lst xss.flatten))
end
section
variable {X : Cx}
theorem cr_sumL (hc : X.calm = true) : CallR X (.builtin "sum") (rSumL X.K) := by
  intro pins s σ H vs us Q I r h
  obtain ⟨a, b, ps, xss, rfl, hs, hb, hne, hl, hx, hz, q⟩ := h
  obtain ⟨u1, u2, rfl, r1, r2⟩ := Vals.two r
  cases r1
  cases r2
  obtain ⟨its, rv, hL, _⟩ := I.list hs
  have hlen : its.length = xss.length := by rw [← rv.length, List.length_map]; exact hl
  obtain ⟨z0, i0, m0, r0, hl0, e0⟩ := I.lstM hb
  have hi0 : i0 = [] := by cases r0; rfl
  subst hi0
  have hpl : ∀ i : Nat, ∃ ws : List Value, ∀ xs, xss[i]? = some xs → Vals xs ws ∧ ∀ v, its[i]? = some v → ∃ (b : Addr) (m : Nat), v = .ref b ∧ s.heap.get? b = some { cls := .type "list", data := .seq ws.toArray m } := by
    intro i
    cases hi : xss[i]? with
    | none => exact ⟨[], fun xs e => by cases e⟩
    | some xs =>
      have hlt : i < ps.length := by rw [hl]; exact (List.getElem?_eq_some_iff.mp hi).1
      obtain ⟨z, ws, m, rw', hl', e'⟩ := I.lstM (hx i _ xs (List.getElem?_eq_getElem hlt) hi)
      obtain ⟨w, hw, rw2⟩ := rv.get (i := i) (x := .ref ps[i]) (by simp [hlt])
      exact ⟨ws, fun xs' e => by cases e; exact ⟨rw', fun v hv => by rw [hw] at hv; cases hv; cases rw2; exact ⟨_, m, rfl, e'⟩⟩⟩
  obtain ⟨f, hf⟩ := Classical.skolem.mp hpl
  have key : ∀ j, j ≤ xss.length → Vals (xss.take j).flatten (preL f j) := by
    intro j
    induction j with
    | zero => intro _; exact .nil
    | succ j ih =>
      intro hj
      have hlt : j < xss.length := by omega
      rw [List.take_succ, List.getElem?_eq_getElem hlt, List.flatten_append]
      refine (ih (by omega)).append ?_
      simp only [Option.toList_some, List.flatten_cons, List.flatten_nil, List.append_nil]
      exact (hf j _ (List.getElem?_eq_getElem hlt)).1
  have flen : ∀ j, ((xss.take j).flatten).length ≤ xss.flatten.length := by
    intro j
    have e : xss.flatten = (xss.take j).flatten ++ (xss.drop j).flatten := by
      rw [← List.flatten_append, List.take_append_drop]
    rw [e, List.length_append]
    omega
  refine call_sum_lists (f := f) (I.ok.hd hc) hL.isList e0 (by rw [hlen, ← hl]; exact List.length_pos_iff.mpr hne) (fun i v e => ?_) (fun j hj => ?_) fun h' tk a' m' k1 k2 k3 => ?_
  · have hlt : i < xss.length := by rw [← hlen]; exact (List.getElem?_eq_some_iff.mp e).1
    exact (hf i _ (List.getElem?_eq_getElem hlt)).2 v e
  · have := (key j (by omega)).length
    have := flen j
    omega
  · have kl := key xss.length (Nat.le_refl _)
    rw [List.take_length] at kl
    rw [hlen] at k2
    exact ⟨.ref a', upd H a' (.lst xss.flatten), I.laid (t' := tk) k1 k3 ⟨Evl.sz_of hz, _, m', kl, k2⟩, rfl, q a' (I.hok.fresh k3)⟩
end
end L2
namespace DL
open PySem PySem.Spec PyProof.Rows L2
section
variable {T : Tb} {K : PySem.W.Frag} {E : XK} {g g' : G} {r r' r1 r2 r3 : Rs} {ta tb tc te ts : TE} {t : TT} {x y z d : D} {ds es xs : List D} {tas : TA} {i j k : Nat}
/-- tuple(xs) of a list -/
theorem ev_tupX (h : Ev T K ta g r x r1) (hv : Vl x r1 ds) : Ev T K (tThen ta (kTupX K)) g r (.tux ds) r1 := fun rf Hs H σ s Q q => h rf Hs H σ s _ fun v Hs1 H1 e s1 ru => by
  obtain ⟨a, xs, rfl, h1, h2⟩ := hv.at s1 ru
  refine ⟨a, xs, rfl, Evl.sq_of h1, fun p o hp ho => ?_⟩
  obtain ⟨s2, e2⟩ := s1.alloc (o := .frz o (.tup xs)) hp True.intro
  exact q _ _ _ (e.trans e2) s2 (.tux upd_same ho (DRs.mono e2 _ h2))
def rg3D (i c : Int) (n : Nat) : List D := (List.range n).map fun (m : Nat) => D.int (i + (m : Int) * c)
theorem ev_tupRg3 {a b c : Int} {n : Nat} (h : EvA T K tas g r [.int a, .int b, .int c] r1) (hr : RgC a b c n) (hn : n ≤ 100000) : Ev T K (tTupRg3 tas) g r (.tup (rg3D a c n)) r1 := fun rf Hs H σ s Q q => h rf Hs H σ s _ fun vs Hs1 H1 e s1 rvs => by
  cases rvs with
  | cons q1 q2 =>
    obtain ⟨v2, v3, rfl, q3, q4⟩ := q2.two
    cases q1
    cases q3
    cases q4
    refine ⟨a, b, c, n, rfl, hr, hn, fun p hp => ?_⟩
    obtain ⟨s2, e2⟩ := s1.alloc (o := .tup ((List.range n).map fun (m : Nat) => V.int (a + (m : Int) * c))) hp True.intro
    have key : ∀ (Hh : Hp) (l : List Nat), DRs K Hh (l.map fun (m : Nat) => V.int (a + (m : Int) * c)) (l.map fun (m : Nat) => D.int (a + (m : Int) * c)) := by
      intro Hh l
      induction l with
      | nil => exact .nil
      | cons m l ih => exact .cons (.int _) ih
    exact q _ _ _ (e.trans e2) s2 (.tup (Evl.st_of upd_same) (key _ _))
theorem DRs.step {Hs : Hp} {vs : List V} {lo : Option Int} {st : Int} (h : DRs K Hs vs ds) : DRs K Hs (stepL vs lo st) (stepL ds lo st) := by
  unfold stepL
  rw [h.length]
  generalize List.range _ = ks
  induction ks with
  | nil => exact .nil
  | cons k ks ih =>
    rw [List.filterMap_cons, List.filterMap_cons]
    generalize ((Builtin.Slice.sliceAdjust lo none st ↑ds.length).1 + (k : Int) * st).toNat = m
    cases hm : ds[m]? with
    | none =>
      have hl : vs[m]? = none := by
        rw [List.getElem?_eq_none_iff] at hm ⊢
        rw [h.length]
        exact hm
      rw [hl]
      exact ih
    | some d =>
      obtain ⟨v, h1, h2⟩ := h.get hm
      rw [h1]
      exact .cons h2 ih
theorem ev_stepT {tl : TO} {lo : Option Int} {st : Int} (h : Ev T K te g r (.tup ds) r1) (h1 : EvO T K tl g r1 lo r2) (h2 : Ev T K ts g r2 (.int st) r3) (h3 : st ≠ 0 ∧ st ≠ 1) (hz : (stepL ds lo st).length ≤ 100000) : Ev T K (tStepT K te tl ts) g r (.tup (stepL ds lo st)) r3 := fun rf Hs H σ s Q q =>
  h rf Hs H σ s _ fun v Hs1 H1 e1 s1 rv => h1 rf Hs1 H1 σ s1 _ fun Hs2 H2 e2 s2 => h2 rf Hs2 H2 σ s2 _ fun w Hs3 H3 e3 s3 rw' => by
    cases rw'
    obtain ⟨a, xs, rfl, a1, a2⟩ := (DR.mono (e2.trans e3) _ rv).tupI
    refine ⟨a, xs, st, rfl, rfl, s3.ex.st a1, h3.1, h3.2, by rw [(a2.step).length]; exact hz, fun p hp => ?_⟩
    obtain ⟨s4, e4⟩ := s3.alloc (o := .tup (stepL xs lo st)) hp True.intro
    exact q _ _ _ (((e1.trans e2).trans e3).trans e4) s4 (.tup (Evl.st_of upd_same) (DRs.mono e4 _ a2.step))
/-- the least -/
def minI : List Int → Int
  | [] => 0
  | [a] => a
  | a :: b :: l => min a (minI (b :: l))
theorem minI_mem : ∀ {l : List Int}, l ≠ [] → minI l ∈ l
  | [a], _ => by simp [minI]
  | a :: b :: l, _ => by
    have ih := minI_mem (l := b :: l) (by simp)
    show min a (minI (b :: l)) ∈ _
    by_cases h : a ≤ minI (b :: l)
    · rw [Int.min_eq_left h]; simp
    · rw [Int.min_eq_right (by omega)]; exact List.mem_cons_of_mem _ ih
theorem minI_le : ∀ {l : List Int} {y : Int}, y ∈ l → minI l ≤ y
  | [a], y, h => by simp at h; subst h; exact Int.le_refl _
  | a :: b :: l, y, h => by
    show min a (minI (b :: l)) ≤ y
    rcases List.mem_cons.mp h with z | z
    · subst z; exact Int.min_le_left _ _
    · exact Int.le_trans (Int.min_le_right _ _) (minI_le z)
theorem ca_minT {ns : List Int} (h0 : ns ≠ []) : CaD T K (rMinT K) [.tup (ns.map D.int)] g r (.int (minI ns)) r := fun rf Hs H σ us s ru Q q => by
  obtain ⟨v, rfl, rv⟩ := ru.one
  obtain ⟨a, xs, rfl, h1, h2⟩ := rv.tupI
  have e := DRs.ints_inv h2
  subst e
  refine ⟨a, ns, rfl, s.ex.st h1, List.length_pos_iff.mpr h0, fun m hm hl => ?_⟩
  have : m = minI ns := Int.le_antisymm (hl _ (minI_mem h0)) (minI_le hm)
  subst this
  exact q _ _ _ (Ext.refl _) s (.int _)
theorem en_sumL {dss : List (List D)} (h : EvA T K tas g r [x, .lst []] r1) (hv : Vl x r1 (dss.map D.lst)) (h0 : dss ≠ []) (hz : dss.flatten.length ≤ 100000) : EvN T K (tCB (rSumL K) tas) g r dss.flatten r1 := fun rf Hs H σ s Q q => h rf Hs H σ s _ fun vs Hs1 H1 e s1 rvs => by
  obtain ⟨v, w, rfl, rv, rw'⟩ := rvs.two
  obtain ⟨a, xs, rfl, h1, h2⟩ := hv.at s1 rv
  cases rw' with
  | @lst b ys _ b1 b2 =>
    cases b2
    have inv : ∀ (ds : List (List D)) (xs : List V), DRs K Hs1 xs (ds.map D.lst) → ∃ (ps : List Addr) (xss : List (List V)), xs = ps.map V.ref ∧ ps.length = xss.length ∧ (∀ (i : Nat) p xs, ps[i]? = some p → xss[i]? = some xs → Hs1 p = some (.lst xs)) ∧ DRs K Hs1 xss.flatten ds.flatten := by
      intro ds
      induction ds with
      | nil => intro xs h; cases h; exact ⟨[], [], rfl, rfl, fun i p xs e => by simp at e, .nil⟩
      | cons d ds ih =>
        intro xs h
        cases h with
        | cons a1 a2 =>
          obtain ⟨ps, xss, e1, e2, e3, e4⟩ := ih _ a2
          cases a1 with
          | @lst p zs _ c1 c2 =>
            refine ⟨p :: ps, zs :: xss, by rw [e1]; rfl, by simp [e2], fun i p' xs' f1 f2 => ?_, ?_⟩
            · cases i with
              | zero => simp at f1 f2; subst f1; subst f2; exact c1
              | succ i => exact e3 i p' xs' (by simpa using f1) (by simpa using f2)
            · rw [List.flatten_cons, List.flatten_cons]; exact c2.append e4
    obtain ⟨ps, xss, e1, e2, e3, e4⟩ := inv dss xs h2
    subst e1
    have hl := h2.length
    rw [List.length_map, List.length_map] at hl
    refine ⟨a, b, ps, xss, rfl, Evl.sq_of h1, s1.ex.keep _ _ b1 (fun _ z => nomatch z), fun hz => h0 (by rw [hz] at hl; exact List.length_eq_zero_iff.mp hl.symm), e2, fun i p xs f1 f2 => s1.ex.keep _ _ (e3 i p xs f1 f2) (fun _ z => nomatch z), by rw [e4.length]; exact hz, fun p hp => ?_⟩
    exact q p Hs1 _ e (s1.own (o := .lst xss.flatten) hp True.intro (x := rl p dss.flatten) rfl ⟨_, upd_same, e4⟩)
end
end DL
/-! lambdas, also such as capture names: made, kept, handed to a def that calls them -/
namespace LmX
open PySem PySem.Spec PyProof.Rows L2 LamX NdefX DL
/-- H1 is H with a new lambda at f, its code object at c (new in the table at P, or known) -/
inductive Made (P : Addr) (I : LInfo) (f c : Addr) (H : Hp) : Hp → Prop
  | hit : H c = some (CodeO c I.q) → H f = none → Made P I f c H (upd H f (LO f c I))
  | new {ps more : Array Value} : H P = some (.tbl ps) → H c = none → H f = none → f ≠ c → f ≠ P → Made P I f c H (upd (upd (upd H P (.tbl (ps ++ more))) c (CodeO c I.q)) f (LO f c I))
section
variable {X : Cx} {pins : List (Addr × Obj)} {σ : L2.St} {H : Hp} {s : Shared}
theorem inv_lam {I : LInfo} {c : Addr} {o : Obj} {t' : Nat} {pm ctv : Value} (J : Inv X pins σ H s) (ho : o = PySem.W.kla_obj "<lambda>" I.q I.params I.body I.scope I.cl pm c ctv) :
    Inv X pins σ (upd H s.heap.objs.size (LO s.heap.objs.size c I)) { s with heap := s.heap.push o, toks := t' } := by
  subst ho
  refine J.laid (a := s.heap.objs.size) (fun b u e => Heap.get?_push_of_some _ e) (Nat.le_refl _) ?_
  have e : (s.heap.push (PySem.W.kla_obj "<lambda>" I.q I.params I.body I.scope I.cl pm c ctv)).get? s.heap.objs.size = some (PySem.W.kla_obj "<lambda>" I.q I.params I.body I.scope I.cl pm c ctv) := Heap.get?_push_size _ rfl
  exact ⟨⟨pm, ctv, e⟩, ⟨_, e⟩, fun h1 h2 ⟨p, t, z⟩ st => ⟨p, t, st _ z⟩⟩
theorem lam_made {T : List (Addr × Str)} {c P : Addr} {params : Arguments} {body : Expr} {scope : Scope} {pos : Pos} {E : Value → Shared → Prop} {Q : Value → Shared → Prop} (I : Inv X pins σ H s) (TB : LamX.TabB X.base X.mg c P) (hcode : X.env.code = .ref c)
    (hm : (P, X.env.qual ++ "<lambda>") ∈ T) (hu : ∀ p ∈ T, p.1 = P → p.2 = X.env.qual ++ "<lambda>") (hT : Tabs T H) (hdef : defaultsOf params X.env = ([], [])) (hfree : ∀ y ∈ scope.names, y.2 = .free → ∃ c, X.env.cells.lookup y.1 = some c)
    (h : ∀ (f c' : Addr) (H1 : Hp) (s' : Shared), Inv X pins σ H1 s' → Made P ⟨X.env.qual ++ "<lambda>", params, body, scope, cloFrom X.env.cells scope.names []⟩ f c' H H1 → Tabs T H1 → Q (.ref f) s') :
    wpAny (model X.prog X.w) X.A (eval (.Lambda params body scope pos) X.env) Q E s := by
  obtain ⟨ps, hP, ht, ha⟩ := hT _ hm
  refine PySem.W.kla_eval hdef ?_
  have bP : s.heap.BuiltinsAt X.mg P := TB.bm.keeps I.bk
  have hP' : s.heap.get? P = some { cls := .none, data := .fields ps } := I.hok P _ hP
  have hclo : closureFor scope X.env = pure (cloFrom X.env.cells scope.names []) := closure_ok hfree
  cases hc : codeAmong pos ps.toList with
  | none =>
    refine PySem.W.kla_makeFunction (mg := X.mg) (c := c) (P := P) (ps := ps) hclo I.ok.glob (I.mod.glob.keeps I.bk) hcode (TB.code.keeps I.bk) hP' ht hc TB.gP bP fun c' ctv h' tk hx hge hlt hrec htb => ?_
    obtain ⟨c2, oc, vs, t, e2, hoc, hd, hv⟩ := hrec
    cases e2
    have nC : H c' = none := I.hok.fresh hge
    have hsz : s.heap.objs.size ≤ h'.objs.size := Nat.le_trans hge (Nat.le_of_lt hlt)
    have I1 := inv_table (t' := tk) (more := #[rawInt pos.line, rawInt pos.col, .ref c']) (h' := h') I hP (fun b o hb e => hx b o hb e) htb hge ⟨oc, vs, t, hoc, hd, hv⟩
    have I2 := inv_lam (I := ⟨X.env.qual ++ "<lambda>", params, body, scope, cloFrom X.env.cells scope.names []⟩) (c := c') (t' := tk) (pm := (X.mg "__name__").getD .none) (ctv := ctv) I1 rfl
    have nF : H h'.objs.size = none := I.hok.fresh hsz
    have n1 : h'.objs.size ≠ c' := Nat.ne_of_gt hlt
    have n2 : h'.objs.size ≠ P := Nat.ne_of_gt (Nat.lt_of_lt_of_le (Heap.lt_size hP') hsz)
    have nPc : P ≠ c' := ne_of_none hP nC
    have eL : (ps ++ #[rawInt pos.line, rawInt pos.col, .ref c']).toList = ps.toList ++ [rawInt pos.line, rawInt pos.col, .ref c'] := by simp
    have hE : ∀ b o, H b = some o → (∀ ps, o ≠ .tbl ps) → upd (upd (upd H P (.tbl (ps ++ #[rawInt pos.line, rawInt pos.col, .ref c']))) c' (CodeO c' (X.env.qual ++ "<lambda>"))) h'.objs.size (LO h'.objs.size c' ⟨X.env.qual ++ "<lambda>", params, body, scope, cloFrom X.env.cells scope.names []⟩) b = some o := fun b o e n => by
      rw [upd_ne (ne_of_none e nF), upd_ne (ne_of_none e nC), upd_ne (fun z => n ps (Option.some.inj (e.symm.trans (by rw [z]; exact hP))))]
      exact e
    refine h h'.objs.size c' _ _ I2 (.new hP nC nF n1 n2) fun p hp => ?_
    by_cases hb : p.1 = P
    · rw [hu p hp hb, hb]
      refine ⟨_, by rw [upd_ne (Ne.symm n2), upd_ne nPc, upd_same], by rw [eL]; exact PySem.TriplesOk_snoc _ _ _ _ ht, fun p' cv hcv => ?_⟩
      rw [eL] at hcv
      rcases among_app _ ht hcv with z | z
      · obtain ⟨c0, e1, e2⟩ := ha p' cv z
        exact ⟨c0, e1, hE _ _ e2 codeO_ne⟩
      · exact ⟨c', z, by rw [upd_ne (Ne.symm n1), upd_same]⟩
    · obtain ⟨ps', a1, a2, a3⟩ := hT p hp
      refine ⟨ps', by rw [upd_ne (ne_of_none a1 nF), upd_ne (ne_of_none a1 nC), upd_ne hb]; exact a1, a2, fun p' cv hcv => ?_⟩
      obtain ⟨c0, e1, e2⟩ := a3 p' cv hcv
      exact ⟨c0, e1, hE _ _ e2 codeO_ne⟩
  | some cv =>
    obtain ⟨c', e, hco⟩ := ha pos cv hc
    subst e
    refine PySem.W.kla_makeFunctionHit (mg := X.mg) (c := c) (P := P) (ps := ps) hclo I.ok.glob (I.mod.glob.keeps I.bk) hcode (TB.code.keeps I.bk) hP' ht hc bP fun ctv h' tk hx hsz => ?_
    have I1 : Inv X pins σ H { s with heap := h', toks := tk } := I.kept hx
    have nF : H h'.objs.size = none := I1.hok.fresh (Nat.le_refl _)
    have I2 := inv_lam (I := ⟨X.env.qual ++ "<lambda>", params, body, scope, cloFrom X.env.cells scope.names []⟩) (c := c') (t' := tk) (pm := (X.mg "__name__").getD .none) (ctv := ctv) I1 rfl
    exact h h'.objs.size c' _ _ I2 (.hit hco nF) (hT.ext fun b o e => (upd_ne (ne_of_none e nF)).trans e)
/-- a lambda as a value -/
def tLamV (T : List (Addr × Str)) (P : Addr) (I : LInfo) : TE := fun σ H Q => Tabs T H ∧ ∀ f c H1, Made P I f c H H1 → Tabs T H1 → Q (.ref f) H1
theorem pe_lamC {T : List (Addr × Str)} {c P : Addr} {params : Arguments} {body : Expr} {scope : Scope} {pos : Pos} {q : Str} (TB : LamX.TabB X.base X.mg c P) (hcode : X.env.code = .ref c) (hq : X.env.qual ++ "<lambda>" = q)
    (hm : (P, q) ∈ T) (hu : ∀ p ∈ T, p.1 = P → p.2 = q) (hdef : defaultsOf params X.env = ([], [])) (L : LamS X.env.scope scope) : PE X (.Lambda params body scope pos) (tLamV T P ⟨q, params, body, scope, cloFrom X.env.cells scope.names []⟩) := by
  subst hq
  refine ⟨fun pins s σ H Q I h => ?_⟩
  obtain ⟨hT, h⟩ := h
  exact lam_made I TB hcode hm hu hT hdef (L.has I.ok) fun f c' H1 s' I1 M T1 => ⟨.ref f, H1, I1, rfl, h f c' H1 M T1⟩
/-- how the body of a lambda of this frame is read -/
structure BodyOk (X : Cx) (k : Nat) (I : LInfo) (t : XK → TE) : Prop where
  cl : I.cl = cloFrom X.env.cells I.scope.names []
  q : I.q = X.env.qual ++ "<lambda>"
  L : LamS X.env.scope I.scope
  bind : ∀ (q : Str) (cl : List (Str × Addr)) (pm cv ctv : Value), bindArgs (PySem.W.kla_fn "<lambda>" q I.params I.body I.scope cl pm cv ctv) ⟨[], []⟩ = pure []
  run : ∀ (A : Around) (outer : List Env) (s : Shared) (H : Hp) (E : XK) (f c' : Addr), Room k (A.deeper (lamEnv X I.scope s.heap.objs.size f c')) → PE (lamCx X A outer s H E I.scope f c') I.body (t E)
/-- a(), in the def that got such a lambda -/
theorem pe_actC {CXg : CXT} {Eg : XK} {Ng : List Str} {qg : Str} {sg : Scope} {g f c' : Addr} {cdg : Value} {I : LInfo} {k i : Nat} {a : Str} {pn : List (Addr × Obj)} {xe : Value → Shared → Prop} {W : WX} {E : XK} {tb : XK → TE} {p1 p2 : Pos}
    (J : Inv X pins σ H s) (B : BodyOk X k I tb) (tk : Takes ((cxOf CXg X.prog X.w X.K X.mg X.base Ng qg sg g cdg X.A X.stack s H Eg).tr pn xe) W) (hW : ∀ cls d σ' H', E cls d H' → W cls d σ' H') (hr : Room (k + 1) (X.A.deeper (envOfC qg sg s.heap.objs.size g cdg)))
    (hN : Ng[i]? = some a) (hv : Vis sg a) (hd : (a == ("__debug__" : Str)) = false) (hcd : (a == ("__classdict__" : Str)) = false) :
    PE ((cxOf CXg X.prog X.w X.K X.mg X.base Ng qg sg g cdg X.A X.stack s H Eg).tr pn xe) (.Call (.Name a p1) [] [] p2)
      (fun τ G Q => τ[i]? = some (some (.ref f)) ∧ G c' = some (CodeO c' I.q) ∧ G f = some (LO f c' I) ∧ tb E σ G Q) := by
  refine ⟨fun pz sz τ G Q Iz h => ?_⟩
  obtain ⟨hs, hc, hf, ht⟩ := h
  have name := (pe_var (X := (cxOf CXg X.prog X.w X.K X.mg X.base Ng qg sg g cdg X.A X.stack s H Eg).tr pn xe) (pos := p1) (i := i) hN hv hd hcd).run pz sz τ G (fun v G1 => v = .ref f ∧ G1 = G) Iz ⟨.ref f, hs, rfl, rfl⟩
  refine wpAny_Call_Name_kw (thn name fun u s1 ⟨v, G1, I1, r1, ev, eG⟩ => ?_)
  subst ev
  subst eG
  obtain rfl : u = Value.ref f := r1
  obtain ⟨⟨pm, ctv, of1⟩, _, _⟩ := I1.hok f _ hf
  refine PySem.W.callWith_F0 ⟨_, _, _, _, of1⟩ ?_
  have un : Un (frs X.stack) [] H G1 s.heap s1.heap := I1.base
  obtain ⟨⟨oc, vs, t, hoc, hdc, hvc⟩, _, _⟩ := I1.hok c' _ hc
  have eq := B.q
  have ec := B.cl
  have run : codeAny (model X.prog X.w) (X.A.deeper (envOfC qg sg s.heap.objs.size g cdg)) (.call (.ref f) ⟨[], []⟩) (CR (L2.CX X.prog X.w) (envOfC qg sg s.heap.objs.size g cdg :: X.stack) X.prog X.w G1 s1 Q E) s1 := by
    refine PySem.W.kla_callFunE hr.depth of1 rfl B.L.co B.L.gen rfl ⟨c', oc, vs, t, rfl, hoc, hdc, hvc⟩ ?_
    rw [B.bind]
    refine wpAny_pure (wpAny_newFunctionEnv (fun y hy => (B.L.own y hy).2) (fun y hy => absurd hy (by simp)) (fun h₁ hns hsb => ⟨I1.nolimit.fresh _ hsb, ?_⟩) B.L.kind)
    have keep : ∀ b o, s1.heap.get? b = some o → h₁.get? b = some o := fun b o e => hsb.extBut b o (Nat.ne_of_lt (Heap.lt_size e)) (Heap.get?_push_of_some _ e)
    rw [eq, ec]
    show codeAny _ _ (.expr I.body (lamEnv X I.scope s1.heap.objs.size f c')) _ _
    have In : Inv (lamCx X (X.A.deeper (envOfC qg sg s.heap.objs.size g cdg)) (envOfC qg sg s.heap.objs.size g cdg :: X.stack) s1 G1 E I.scope f c') [] σ G1 { s1 with heap := h₁, toks := s1.toks + ([] : List (Str × Value)).length } :=
      lam_start2 J B.L I1.env0 hr.hd un hns keep
    refine PySem.W.kla_codeExpr (wpAny_mono ((B.run _ _ s1 G1 E f c' (hr.deeper _)).run [] _ _ G1 Q In ht) (fun v s' hq => ?_) fun e s' hq => hq)
    obtain ⟨z, G', J', rv, q⟩ := hq
    exact ⟨z, G', J'.os, J'.bare, J'.base, J'.hok, rv, q⟩
  have hx : Passes (L2.CX X.prog X.w) ((cxOf CXg X.prog X.w X.K X.mg X.base Ng qg sg g cdg X.A X.stack s H Eg).tr pn xe) E := passes_call tk hW
  refine wpAny_call (codeAny_mono run fun o s' hq => ?_)
  cases o with
  | error e => exact hx pz τ G1 s1 e s' I1 hq
  | ok fl =>
    cases fl with
    | ret u => exact I1.after hq
    | next => exact hq.elim
    | brk => exact hq.elim
    | cont => exact hq.elim
/-- told(e): e gives a lambda that Gd speaks of -/
def tTold (Gd : LInfo → (XK → TE) → Prop) (K : PySem.W.Frag) (CS : Addr) (ret : Str) (ta : TA) : TE := fun σ H Q => ta σ H fun vs H1 => ∃ (f c : Addr) (I : LInfo) (t : XK → TE), vs = [.ref f] ∧ H1 f = some (LO f c I) ∧ H1 c = some (CodeO c I.q) ∧ Gd I t ∧
  t (fun cls _ H' => ∃ b, PySem.W.exmOne K cls (.ref CS) = some b ∧ (b = true → Q (.str ret) H') ∧ (b = false → False)) σ H1 Q
/-- contexts of the same program and def -/
structure Sib (P : Program) (w : World) (K : PySem.W.Frag) (mg : Str → Option Value) (base : Heap) (N : List Str) (q : Str) (X : Cx) : Prop where
  p : X.prog = P
  w : X.w = w
  k : X.K = K
  m : X.mg = mg
  b : X.base = base
  n : X.N = N
  q : X.env.qual = q
/-- lambdas that capture nothing are read alike in all of them -/
def GdB (P : Program) (w : World) (K : PySem.W.Frag) (mg : Str → Option Value) (base : Heap) (N : List Str) (q : Str) (k : Nat) (I : LInfo) (t : XK → TE) : Prop := ∀ X : Cx, Sib P w K mg base N q X → BodyOk X k I t
/-- the def told: try: return a() / except e: return ret -/
structure ToldF (K : PySem.W.Frag) (mg : Str → Option Value) (x : Str) (g : Addr) (CS : Addr) (ret : Str) : Prop where
  gm : mg x = some (.ref g)
  kp : PySem.W.keepIn K (.ref g) = true
  ex : ∃ (oc : Value) (od : Option Addr) (pg : Arguments) (sg : Scope) (dV kV doc pm : Value) (an : Option Addr) (cdv ct : Value) (osl : Array (Option Value)) (a e : Str) (j : Nat) (p1 p2 p3 p4 p5 p6 p7 p8 : Pos),
    K.lookup g = some ⟨oc, od, .func (PySem.W.fnOf x x pg [.Try [.Return (some (.Call (.Name a p1) [] [] p2)) p3] [.ExceptHandler (some (.Name e p4)) none [.Return (some (.Constant (.str ret) j p5)) p6] p7] [] [] p8] sg dV kV doc pm an cdv ct), osl⟩ ∧
    PySem.W.codeIn K cdv x = true ∧ L2.Binds K (PySem.W.fnOf x x pg [.Try [.Return (some (.Call (.Name a p1) [] [] p2)) p3] [.ExceptHandler (some (.Name e p4)) none [.Return (some (.Constant (.str ret) j p5)) p6] p7] [] [] p8] sg dV kV doc pm an cdv ct) [a] [] ∧
    FnScope [a] [a] sg ∧ Vis sg a ∧ sg.names.lookup e = some .globalImplicit ∧ mg e = some (.ref CS) ∧ (e == ("__debug__" : Str)) = false ∧ (a == ("__debug__" : Str)) = false ∧ (a == ("__classdict__" : Str)) = false
theorem pe_told {x ret : Str} {g CS : Addr} {k : Nat} {e : Expr} {te : TA} {p pos : Pos} {Gd : LInfo → (XK → TE) → Prop} (F : ToldF X.K X.mg x g CS ret) (hG : ∀ I t, Gd I t → BodyOk X k I t) (hg : Gl X x) (hr : Room (k + 2) X.A) (ha : PA X [e] te) (hdb : (x == ("__debug__" : Str)) = false := by decide)
    (he : starEach [e] X.env = (false, eval e X.env) :: starEach [] X.env := by rfl) (hpl : (backTo pos (starEach [] X.env)).any (·.1) = false := by rfl) : PE X (.Call (.Name x p) [e] [] pos) (tTold Gd X.K CS ret te) := by
  obtain ⟨oc, od, pg, sg, dV, kV, doc, pm, an, cdv, ct, osl, a, en, j, p1, p2, p3, p4, p5, p6, p7, p8, lk, hcg, hb, Sg, hva, hge, hme, hde, hda, hdc⟩ := F.ex
  refine ⟨fun pins s σ H Q I h => ?_⟩
  refine wpAny_Call_Name_kw (ld_glob I hg F.gm ?_ hdb)
  refine PySem.W.callWith_K (h₀ := X.base) I.ok.mod.kin F.kp (thn (ha.run pos pins s σ H _ I h) fun us s1 ⟨vs, H1, I1, r1, f, c', LI, t, ev, hf, hc, B0, ht⟩ => ⟨I1.kIn, ?_⟩) he hpl
  have B := hG LI t B0
  subst ev
  cases r1 with
  | cons r1 rn =>
  cases rn
  cases r1
  have rc : codeAny (model X.prog X.w) X.A (.call (.ref g) ⟨[.ref f], []⟩) (CR C8.CX0 X.stack X.prog X.w H1 s1 Q C8.E0) s1 := by
    refine run_ofS (N := [a]) (ps := [a]) (us := [.ref f]) (vs := [.ref f]) lk hcg Sg hr I1.env0 (hb s1 [.ref f] I1.kIn rfl) (.cons rfl .nil) rfl fun hr' => ?_
    have gives := told_gives (X := X) (Ng := [a]) (x := x) (a := a) (e := en) (q := LI.q) (ret := ret) (sg := sg) (g := g) (CS := CS) (cdg := cdv) (j := j) (p1 := p1) (p2 := p2) (p3 := p3) (p4 := p4) (p5 := p5) (p6 := p6) (p7 := p7) (p8 := p8) hge hme hde (fun f => rfl)
    obtain ⟨t', ht', hq'⟩ := gives f c' s1 H1 Q (fun E G Q' => G f = some (LO f c' LI) ∧ t E σ G Q') (fun W pn xe E q1 q2 tk hW => by
      have := pe_actC (i := 0) (p1 := q1) (p2 := q2) (f := f) (c' := c') I1 B tk hW hr' (Ng := [a]) (a := a) rfl hva hda hdc
      exact this) hc ⟨hf, ht⟩
    exact ⟨t', ht'.nox, hq'⟩
  refine wpAny_call (codeAny_mono rc fun o s2 hq => ?_)
  cases o with
  | error e => exact (show False from hq).elim
  | ok fl =>
    cases fl with
    | ret u => exact I1.after hq
    | next => exact hq.elim
    | brk => exact hq.elim
    | cont => exact hq.elim
theorem pe_toldK {x ret : Str} {g CS : Addr} {k : Nat} {e : Expr} {te : TA} {p pos : Pos} {Gd : LInfo → (XK → TE) → Prop} {KK : PySem.W.Frag} (hK : X.K = KK) (F : ToldF KK X.mg x g CS ret) (hG : ∀ I t, Gd I t → BodyOk X k I t) (hg : Gl X x) (hr : Room (k + 2) X.A) (ha : PA X [e] te) (hdb : (x == ("__debug__" : Str)) = false := by decide)
    (he : starEach [e] X.env = (false, eval e X.env) :: starEach [] X.env := by rfl) (hpl : (backTo pos (starEach [] X.env)).any (·.1) = false := by rfl) : PE X (.Call (.Name x p) [e] [] pos) (tTold Gd KK CS ret te) := by
  subst hK
  exact pe_told F hG hg hr ha hdb he hpl
end
end LmX
namespace DL
open PySem PySem.Spec PyProof.Rows L2 LamX LmX
section
variable {T : Tb} {K : PySem.W.Frag} {E : XK} {g g' : G} {r r' r1 r2 r3 : Rs} {ta tb tc te ts : TE} {t : TT} {x y z d : D} {ds es xs : List D} {tas : TA} {i j k : Nat} {O : Out}
theorem Made.ext {P : Addr} {I : LInfo} {f c : Addr} {H H1 : Hp} (m : Made P I f c H H1) (hP : (P, I.q) ∈ T.ls) (T1 : Tabs T.ls H1) : Ext T H H1 ∧ H1 f = some (LO f c I) ∧ H1 c = some (CodeO c I.q) ∧ H f = none := by
  cases m with
  | hit hc hf =>
    exact ⟨Ext.new hf, upd_same, (upd_ne (ne_of_none hc hf)).trans hc, hf⟩
  | @new ps more h1 hc hf n1 n2 =>
    refine ⟨⟨fun a o e n => ?_, fun a qs e => ?_, fun P' hP' ⟨qs, q1, q2⟩ => ?_, fun _ => T1⟩, upd_same, (upd_ne (Ne.symm n1)).trans upd_same, hf⟩
    · rw [upd_ne (ne_of_none e hf), upd_ne (ne_of_none e hc), upd_ne (fun z => n ps (Option.some.inj (e.symm.trans (by rw [z]; exact h1))))]
      exact e
    · by_cases z : a = P
      · subst z
        exact ⟨_, by rw [upd_ne (Ne.symm n2), upd_ne (ne_of_none h1 hc), upd_same]⟩
      · exact ⟨qs, by rw [upd_ne (ne_of_none e hf), upd_ne (ne_of_none e hc), upd_ne z]; exact e⟩
    · have z : P' ≠ P := Ne.symm (T.dj P' hP' _ hP)
      exact ⟨qs, by rw [upd_ne (ne_of_none q1 hf), upd_ne (ne_of_none q1 hc), upd_ne z]; exact q1, q2⟩
theorem SR.noext {o : HO} (s : ∃ Hs σ, SR T K Hs H σ g r) {c : Addr} (h : (H : Hp) c = some o) (ne : ¬ NT o) : c ∉ fps r := fun hc => by
  obtain ⟨Hs, σ, s⟩ := s
  obtain ⟨_, u, h1, h2⟩ := s.fr c hc
  rw [h] at h1
  cases h1
  exact ne h2
theorem ev_lam {P : Addr} {I : LInfo} (hP : (P, I.q) ∈ T.ls) : Ev T K (tLamV T.ls P I) g r (.lam I) r := fun rf Hs H σ s Q q => by
  refine ⟨s.wfH.l, fun f c H1 m T1 => ?_⟩
  obtain ⟨e1, h1, h2, h3⟩ := Made.ext m hP T1
  have s1 := s.grow e1
  obtain ⟨s2, e2⟩ := s1.adopt h2 codeO_ne (SR.noext ⟨_, _, s1⟩ h2 fun z => z.co _ _ rfl)
  obtain ⟨s3, e3⟩ := s2.adopt h1 lo_ne (SR.noext ⟨_, _, s2⟩ h1 fun z => z.lo _ _ _ rfl)
  refine q _ _ _ (e2.trans e3) s3 (.lam upd_same (e3.keep _ _ upd_same codeO_ne))
/-- told(e), the lambda's body raises an error of CS -/
theorem ev_toldX {Gd : LInfo → (XK → TE) → Prop} {CS : Addr} {ret : Str} {I : LInfo} {t : XK → TE} (h : EvA T K tas g r [.lam I] r1) (B : Gd I t) (hx : PySem.W.exmOne K (.ref CS) (.ref CS) = some true) (hb : ∀ E : XK, EvX T K E (t E) g r1 CS r2) : Ev T K (LmX.tTold Gd K CS ret tas) g r (.str ret) r2 := fun rf Hs H σ s Q q =>
  h rf Hs H σ s _ fun vs Hs1 H1 e s1 rvs => by
    obtain ⟨v, rfl, rv⟩ := rvs.one
    cases rv with
    | @lam f c _ b1 b2 =>
      refine ⟨f, c, I, t, rfl, s1.ex.keep _ _ b1 lo_ne, s1.ex.keep _ _ b2 codeO_ne, B, hb _ rf Hs1 H1 σ s1 _ fun Hs2 H2 e2 s2 => ⟨true, hx, fun _ => q _ Hs2 H2 (e.trans e2) s2 (.str _), fun z => by cases z⟩⟩
/-- .. gives a value -/
theorem ev_toldV {Gd : LInfo → (XK → TE) → Prop} {CS : Addr} {ret : Str} {I : LInfo} {t : XK → TE} (h : EvA T K tas g r [.lam I] r1) (B : Gd I t) (hb : ∀ E : XK, Ev T K (t E) g r1 d r2) : Ev T K (LmX.tTold Gd K CS ret tas) g r d r2 := fun rf Hs H σ s Q q =>
  h rf Hs H σ s _ fun vs Hs1 H1 e s1 rvs => by
    obtain ⟨v, rfl, rv⟩ := rvs.one
    cases rv with
    | @lam f c _ b1 b2 =>
      refine ⟨f, c, I, t, rfl, s1.ex.keep _ _ b1 lo_ne, s1.ex.keep _ _ b2 codeO_ne, B, hb _ rf Hs1 H1 σ s1 _ fun v Hs2 H2 e2 s2 rv => q v Hs2 H2 (e.trans e2) s2 rv⟩
theorem en_slQ {tl th : TO} {lo hi : Option Int} (h : Ev T K te g r (.lsq ds) r1) (h1 : EvO T K tl g r1 lo r2) (h2 : EvO T K th g r2 hi r3) : EvN T K (tSl (rSlL K) te tl th) g r (cutD ds lo hi) r3 := fun rf Hs H σ s Q q =>
  h rf Hs H σ s _ fun w Hs1 H1 e1 s1 rv => h1 rf Hs1 H1 σ s1 _ fun Hs2 H2 e2 s2 => h2 rf Hs2 H2 σ s2 _ fun Hs3 H3 e3 s3 => by
    cases DR.mono (e2.trans e3) _ rv with
    | lsq a1 a2 => exact ⟨_, _, rfl, s3.ex.sl a1, fun p hp => q p _ _ ((e1.trans e2).trans e3) (s3.own (o := .lst _) hp True.intro (x := rl p _) rfl ⟨_, upd_same, a2.cut lo hi⟩)⟩
end
end DL
namespace DL
open PySem PySem.Spec PyProof.Rows L2
section
variable {T : Tb} {K : PySem.W.Frag} {E : XK} {g g' : G} {r r' r1 r2 r3 : Rs} {ta tb tc te : TE} {t : TT} {x y z d : D} {ds es xs : List D} {tas : TA} {f : R2} {O O' : Out} {s1 s2 ts tu : TS} {i j k : Nat} {tg : TG} {C : Addr}
/-! ### what raises within -/
theorem ex_opL (h : EvX T K E ta g r C r1) : EvX T K E (tOp f ta tb) g r C r1 := fun rf Hs H σ s Q q => h rf Hs H σ s _ fun Hs1 H1 e s1 => q Hs1 H1 e s1
theorem ex_opR (h1 : Ev T K ta g r x r1) (h2 : EvX T K E tb g r1 C r2) : EvX T K E (tOp f ta tb) g r C r2 := fun rf Hs H σ s Q q => h1 rf Hs H σ s _ fun v Hs1 H1 e s1 rv => h2 rf Hs1 H1 σ s1 _ fun Hs2 H2 e2 s2 => q Hs2 H2 (e.trans e2) s2
theorem st_exT (h : EvX T K E te g r C r1) (h2 : O.ex C r1) : StD T K E (tIfS (tTest te) s1 s2) g r O := fun rf Hs H σ s En G => h rf Hs H σ s _ fun Hs1 H1 e s' => G.ex C _ _ _ _ _ h2 e s'
theorem sq_exT (h : EvX T K E te g r C r1) (h2 : O.ex C r1) : StD T K E (tSeq (tIfS (tTest te) s1 s2) ts) g r O := fun rf Hs H σ s En G => h rf Hs H σ s _ fun Hs1 H1 e s' => G.ex C _ _ _ _ _ h2 e s'
theorem sq_exFor (h : EvX T K E te g r C r1) (h2 : O.ex C r1) : StD T K E (tSeq (tFor (iTup K te) tg tu) ts) g r O := fun rf Hs H σ s En G => h rf Hs H σ s _ fun Hs1 H1 e s' => G.ex C _ _ _ _ _ h2 e s'
theorem ev_callC {n : Nat} {R : List D → Rs → Oc → Prop} (hR : R ds [] (.one d [])) (h : EvA T K tas g r ds r1) (hn : ds.length = n) : Ev T K (tCall (spR T K n R) [] E tas) g r d r1 := ev_call0 h hn hR
theorem ex_callC {n : Nat} {R : List D → Rs → Oc → Prop} (hR : R ds [] (.err C [])) (h : EvA T K tas g r ds r1) (hn : ds.length = n) : EvX T K E (tCall (spR T K n R) [] E tas) g r C r1 := ex_call0 h hn hR
theorem ev_jn (h : EvN T K te g r ds r1) : Ev T K te g r (.lst ds) r1 := h.ev
end
/-- the simple steps of an expression -/
local macro_rules | `(tactic| walk_at "ev") => `(tactic| repeat' (with_reducible first
  | exact ev_int | exact ev_bl | exact ev_str | exact ev_non | exact ev_ref | exact ea_nil | exact eo_none | exact vl_f | exact vs_t | exact vs_f | exact vd_f
  | (apply ev_var; (with_unfolding_all rfl))
  | apply ea_cons | apply ev_tup | apply ev_neg | apply en_lst | apply eo_some
  | apply et_test | apply et_not
  | exact od_I0i | exact od_I0b | exact od_eqI | exact od_neI | exact od_eqS | exact od_neS | exact od_eqB | exact od_neB
  | apply ev_op | apply ev_cb | exact ca_abs | exact ca_intI | exact ca_intB | apply ca_len))
end DL
namespace DL
open PySem PySem.Spec PyProof.Rows L2
section
variable {T : Tb} {K : PySem.W.Frag} {E : XK} {g g' : G} {r r' r1 r2 r3 : Rs} {ta tb tc te : TE} {t : TT} {x y z d : D} {ds es xs : List D} {tas : TA} {f : R2} {O O' : Out} {s1 s2 ts tu : TS} {i j k : Nat} {tg : TG} {C : Addr}
/-! ### a, b = .. with new lists -/
theorem sq_parNN (h1 : EvN T K ta g r ds r1) (h2 : ∀ p, EvN T K tb g (rl p ds :: r1) es (rl p ds :: r2)) (hk : ∀ p q, StD T K E ts ((g.set i (some (.ref p))).set j (some (.ref q))) (rl q es :: rl p ds :: r2) O) : StD T K E (tSeq (tPar i j (tCons ta (tCons tb tNil))) ts) g r O := fun rf Hs H σ s En G =>
  h1 rf Hs H σ s _ fun p Hs1 H1 e1 s1 => h2 p rf Hs1 H1 σ s1 _ fun q Hs2 H2 e2 s2 => ⟨.ref p, .ref q, rfl, hk p q rf Hs2 H2 _ ((s2.set (.ref p) i).set (.ref q) j) En (G.ext (e1.trans e2))⟩
theorem sq_parEN (h1 : Ev T K ta g r x r1) (h2 : EvN T K tb g r1 es r2) (hk : ∀ q, StD T K E ts ((g.set i (some x)).set j (some (.ref q))) (rl q es :: r2) O) : StD T K E (tSeq (tPar i j (tCons ta (tCons tb tNil))) ts) g r O := fun rf Hs H σ s En G =>
  h1 rf Hs H σ s _ fun v Hs1 H1 e1 s1 rv => h2 rf Hs1 H1 σ s1 _ fun q Hs2 H2 e2 s2 => ⟨v, .ref q, rfl, hk q rf Hs2 H2 _ ((s2.set (DR.mono e2 x rv) i).set (.ref q) j) En (G.ext (e1.trans e2))⟩
theorem sq_parNE (h1 : EvN T K ta g r ds r1) (h2 : ∀ p, Ev T K tb g (rl p ds :: r1) y (rl p ds :: r2)) (hk : ∀ p, StD T K E ts ((g.set i (some (.ref p))).set j (some y)) (rl p ds :: r2) O) : StD T K E (tSeq (tPar i j (tCons ta (tCons tb tNil))) ts) g r O := fun rf Hs H σ s En G =>
  h1 rf Hs H σ s _ fun p Hs1 H1 e1 s1 => h2 p rf Hs1 H1 σ s1 _ fun v Hs2 H2 e2 s2 rv => ⟨.ref p, v, rfl, hk p rf Hs2 H2 _ ((s2.set (.ref p) i).set rv j) En (G.ext (e1.trans e2))⟩
theorem st_parNE (h1 : EvN T K ta g r ds r1) (h2 : ∀ p, Ev T K tb g (rl p ds :: r1) y (rl p ds :: r2)) (hk : ∀ p, O.nx ((g.set i (some (.ref p))).set j (some y)) (rl p ds :: r2)) : StD T K E (tPar i j (tCons ta (tCons tb tNil))) g r O := fun rf Hs H σ s En G =>
  h1 rf Hs H σ s _ fun p Hs1 H1 e1 s1 => h2 p rf Hs1 H1 σ s1 _ fun v Hs2 H2 e2 s2 rv => ⟨.ref p, v, rfl, G.nx _ _ _ _ _ (hk p) (e1.trans e2) ((s2.set (.ref p) i).set rv j)⟩
theorem sq_par3 (h : EvA T K tas g r [x, y, z] r1) (h2 : StD T K E s2 (((g.set i (some x)).set j (some y)).set k (some z)) r1 O) : StD T K E (tSeq (tPar3 i j k tas) s2) g r O := fun rf Hs H σ s En G =>
  h rf Hs H σ s _ fun vs Hs1 H1 e s' rvs => by
    cases rvs with
    | cons ru rvs =>
      obtain ⟨v, w, rfl, rv, rw'⟩ := rvs.two
      exact ⟨_, v, w, rfl, h2 rf Hs1 H1 _ (((s'.set ru i).set rv j).set rw' k) En (G.ext e)⟩
/-! ### comprehensions without a state -/
theorem en_lcF {ti : TI} {vs : List Nat} (h : EvI T K ti g r ds r1) (hl : ds.length ≤ 100000) (b : D → Bool) (fe : D → D)
    (hs : ∀ (i : Nat) d, ds[i]? = some d → ∃ g2 is, EvG T K tg is d (wipeG g vs) g2 ∧ (∀ i ∈ is, i ∈ vs) ∧ EvT T K t g2 r1 (b d) r1 ∧ (b d = true → Ev T K te g2 r1 (fe d) r1)) : EvN T K (tLc ti tg t te vs) g r ((ds.filter b).map fe) r1 := by
  refine en_lc h (fun i acc r' => acc = ((ds.take i).filter b).map fe ∧ r' = r1) ⟨rfl, rfl⟩ hl ?_ ?_
  · rintro i d acc r' hd ⟨rfl, rfl⟩
    obtain ⟨g2, is, h1, h2, h3, h4⟩ := hs i d hd
    have e : ds.take (i + 1) = ds.take i ++ [d] := by
      rw [List.take_succ, hd]
      rfl
    refine ⟨g2, is, h1, h2, b d, r', h3, fun hb => ⟨fe d, r', h4 hb, ?_, rfl⟩, fun hb => ⟨?_, rfl⟩⟩
    · rw [e, List.filter_append, List.map_append]
      simp [hb]
    · rw [e, List.filter_append, List.map_append]
      simp [hb]
  · rintro acc r' ⟨rfl, rfl⟩
    rw [List.take_length]
    exact ⟨rfl, rfl⟩
theorem en_lcM {ti : TI} {vs : List Nat} (h : EvI T K ti g r ds r1) (hl : ds.length ≤ 100000) (fe : D → D)
    (hs : ∀ (i : Nat) d, ds[i]? = some d → ∃ g2 is, EvG T K tg is d (wipeG g vs) g2 ∧ (∀ i ∈ is, i ∈ vs) ∧ Ev T K te g2 r1 (fe d) r1) : EvN T K (tLc ti tg tYes te vs) g r (ds.map fe) r1 := by
  have q := en_lcF (t := tYes) (te := te) (tg := tg) (vs := vs) h hl (fun _ => true) fe fun i d hd => by
    obtain ⟨g2, is, h1, h2, h3⟩ := hs i d hd
    exact ⟨g2, is, h1, h2, et_yes, fun _ => h3⟩
  rw [List.filter_eq_self.mpr (fun _ _ => rfl)] at q
  exact q
/-! ### cuts -/
theorem sIx_pos (n d : Nat) {v : Int} (h : 0 ≤ v) : HT.sIx n d (some v) = min v.toNat n := by
  obtain ⟨k, rfl⟩ : ∃ k : Nat, v = (k : Int) := ⟨v.toNat, by omega⟩
  rw [HT.sIx_nat]
  simp
theorem cut_from {v : Int} (h : 0 ≤ v) : cutD ds (some v) none = ds.drop v.toNat := by
  unfold cutD
  rw [sIx_pos _ _ h, HT.sIx_none]
  by_cases hv : v.toNat ≤ ds.length
  · rw [Nat.min_eq_left hv, List.take_of_length_le (by simp)]
  · rw [Nat.min_eq_right (by omega), Nat.sub_self, List.take_zero, List.drop_eq_nil_of_le (by omega)]
theorem cut_upto {v : Int} (h : 0 ≤ v) : cutD ds none (some v) = ds.take v.toNat := by
  unfold cutD
  rw [sIx_pos _ _ h, HT.sIx_none]
  simp only [List.drop_zero, Nat.sub_zero]
  by_cases hv : v.toNat ≤ ds.length
  · rw [Nat.min_eq_left hv]
  · rw [Nat.min_eq_right (by omega), List.take_of_length_le (Nat.le_refl _), List.take_of_length_le (by omega)]
theorem cut_mid {u v : Int} (h : 0 ≤ u) (h2 : u ≤ v) : cutD ds (some u) (some v) = (ds.drop u.toNat).take (v.toNat - u.toNat) := by
  unfold cutD
  rw [sIx_pos _ _ h, sIx_pos _ _ (by omega)]
  by_cases hv : v.toNat ≤ ds.length
  · rw [Nat.min_eq_left hv, Nat.min_eq_left (by omega)]
  · rw [Nat.min_eq_right (by omega)]
    by_cases hu : u.toNat ≤ ds.length
    · rw [Nat.min_eq_left hu, List.take_of_length_le (by simp), List.take_of_length_le (by simp; omega)]
    · rw [Nat.min_eq_right (by omega), List.drop_eq_nil_of_le (Nat.le_refl _), List.drop_eq_nil_of_le (by omega)]
      simp
/-! ### return; what is one's own is given up, but for the first n -/
theorem SR.cut {rf : Rs} {Hs H : Hp} {σ : L2.St} : ∀ {r1 r2 : Rs}, SR T K Hs H σ g (r1 ++ (r2 ++ rf)) → SR T K Hs H σ g (r2 ++ rf)
  | [], _, s => s
  | _ :: r1, r2, s => SR.cut (r1 := r1) (s.drop 0)
theorem st_retD (h : Ev T K te g r d (r1 ++ r2)) (h2 : O.rt d r2) : StD T K E (tRet te) g r O := fun rf Hs H σ s En G =>
  h rf Hs H σ s _ fun v Hs1 H1 e s' rv => G.rt _ _ _ _ _ _ _ h2 e (SR.cut (r1 := r1) (by rw [← List.append_assoc]; exact s')) rv
theorem st_retA (h : Ev T K te g r d r1) (h2 : O.rt d []) : StD T K E (tRet te) g r O := st_retD (r1 := r1) (r2 := []) (by rw [List.append_nil]; exact h) h2
/-- resources given up ahead of what follows -/
theorem st_dropA (h : StD T K E ts g r2 O) : StD T K E ts g (r1 ++ r2) O := fun rf Hs H σ s => h rf Hs H σ (SR.cut (r1 := r1) (by rw [← List.append_assoc]; exact s))
/-- a resource is given up behind the statement -/
theorem st_nxD (j : Nat) (h : StD T K E ts g r { O with nx := fun g' r' => j < r'.length ∧ O.nx g' (r'.eraseIdx j) }) : StD T K E ts g r O := fun rf Hs H σ s En G => h rf Hs H σ s En ⟨fun g' r' Hs' H' σ' o e s' => G.nx _ _ _ _ _ o.2 e (by rw [← eraseIdx_app o.1]; exact s'.drop j), G.rt, G.bk, G.ct, G.ex⟩
/-- the slots are read more weakly behind the statement -/
theorem st_nxW {w : G → G → Prop} (hw : ∀ a b, w a b → Wk a b) (h : StD T K E ts g r { O with nx := fun g' r' => ∃ g2, w g' g2 ∧ O.nx g2 r' }) : StD T K E ts g r O := fun rf Hs H σ s En Gd => h rf Hs H σ s En ⟨fun g' r' Hs' H' σ' ⟨g2, o1, o2⟩ e s' => Gd.nx _ _ _ _ _ o2 e (s'.weak (hw _ _ o1)), Gd.rt, Gd.bk, Gd.ct, Gd.ex⟩
end
end DL
namespace DL
open PySem PySem.Spec PyProof.Rows L2
theorem units65 {k : Nat} {A : Around} (h : Room k A) : A.units + 65 < cLine := by
  have := h.un
  omega
/-- an expression gives some data and resources of R -/
def EvP (T : Tb) (K : PySem.W.Frag) (te : TE) (g : G) (r : Rs) (R : D → Rs → Prop) : Prop := ∀ (rf : Rs) (Hs H : Hp) (σ : L2.St), SR T K Hs H σ g (r ++ rf) → ∀ Q : VK,
  (∀ d r' v Hs' H', R d r' → Ext T Hs Hs' → SR T K Hs' H' σ g (r' ++ rf) → DR K Hs' v d → Q v H') → te σ H Q
/-- .. a new list -/
def EvNP (T : Tb) (K : PySem.W.Frag) (te : TE) (g : G) (r : Rs) (R : List D → Rs → Prop) : Prop := ∀ (rf : Rs) (Hs H : Hp) (σ : L2.St), SR T K Hs H σ g (r ++ rf) → ∀ Q : VK,
  (∀ p ds r' Hs' H', R ds r' → Ext T Hs Hs' → SR T K Hs' H' σ g (rl p ds :: (r' ++ rf)) → Q (.ref p) H') → te σ H Q
section
variable {T : Tb} {K : PySem.W.Frag} {E : XK} {g g' : G} {r r' r1 r2 r3 : Rs} {ta tb tc te : TE} {t : TT} {x y z d : D} {ds es xs : List D} {tas : TA} {f : R2} {O O' : Out} {s1 s2 ts tu : TS} {i j k : Nat} {tg : TG} {C : Addr}
theorem ep_callN {n : Nat} {R : List D → Rs → Oc → Prop} {o : Oc} (h : EvA T K tas g r ds r1) (hn : ds.length = n) (hR : R ds [] o) (he : ∀ C r, ¬ o.er C r) : EvP T K (tCall (spR T K n R) [] E tas) g r fun d r' => ∃ r2, o.ok d r2 ∧ r' = r2 ++ r1 := fun rf Hs H σ s Q q =>
  call_any (rc := []) (rx := r1) h (List.Perm.refl _) hn hR s (fun d' r' v Hs' H' eo e s2 rv => q d' (r' ++ r1) v Hs' H' ⟨r', eo, rfl⟩ e s2 rv) fun C r _ _ eo => (he C r eo).elim
theorem en_lcP {ti : TI} {vs : List Nat} {Rf : List D → Rs → Prop} (h : EvI T K ti g r ds r1) (I : Nat → List D → Rs → Prop) (h0 : I 0 [] r1) (hl : ds.length ≤ 100000)
    (hs : ∀ (i : Nat) d acc r', ds[i]? = some d → I i acc r' → ∃ g2 is, EvG T K tg is d (wipeG g vs) g2 ∧ (∀ i ∈ is, i ∈ vs) ∧ EvP T K te g2 r' fun e r3 => I (i + 1) (acc ++ [e]) r3)
    (hd : ∀ acc r', I ds.length acc r' → Rf acc r') : EvNP T K (tLc ti tg tYes te vs) g r Rf := fun rf Hs H σ s Q q =>
  h rf Hs H σ s _ fun J Hs1 H1 e s1 st => fun D hD => by
    have s1' : SR T K Hs1 (upd H1 D (.lst [])) σ g (r1 ++ (rl D [] :: rf)) :=
      (s1.own (o := .lst []) hD True.intro (x := rl D []) rfl ⟨[], upd_same, .nil⟩).perm List.perm_middle.symm
    refine ⟨fun i m H' => m = ds.length - i ∧ i ≤ ds.length ∧ ∃ Hs' acc r', Ext T Hs1 Hs' ∧ SR T K Hs' H' σ g (r' ++ (rl D acc :: rf)) ∧ acc.length ≤ i ∧ I i acc r', ⟨_, rfl, Nat.zero_le _, Hs1, [], r1, Ext.refl _, s1', Nat.le_refl _, h0⟩, ?_⟩
    rintro i m H' ⟨rfl, hi, Hs', acc, r', e', s', la, w⟩
    obtain ⟨a1, a2⟩ := st i Hs' H' e' s'.ex
    by_cases hlt : i < ds.length
    · obtain ⟨b1, b2⟩ := a2 ds[i] (List.getElem?_eq_getElem hlt)
      refine Or.inr ⟨b1, fun H2 => ∃ Hs2 acc r2, Ext T Hs1 Hs2 ∧ SR T K Hs2 H2 σ g (r2 ++ (rl D acc :: rf)) ∧ acc.length ≤ i + 1 ∧ I (i + 1) acc r2, fun H2 ⟨Hs2, acc, r2, c1, c2, c3, c4⟩ => ⟨ds.length - (i + 1), by omega, rfl, hlt, Hs2, acc, r2, c1, c2, c3, c4⟩, fun v H2 y => ?_⟩
      obtain ⟨Hs2, c1, c2, c3⟩ := b2 v H2 y
      obtain ⟨g2, is, k1, k0, k2⟩ := hs i _ acc r' (List.getElem?_eq_getElem hlt) w
      have sw := (c3 _ _ _ s').wipe vs
      refine k1 Hs2 H2 _ _ v sw c2 _ fun σ3 s3 hw => ⟨?_, ?_⟩
      · rw [hw vs k0]
        have ww : ∀ (u : List Nat) (τ : L2.St), wipe (wipe τ u) u = wipe τ u := by
          intro u τ
          apply List.ext_getElem?
          intro n
          by_cases hn : n ∈ u
          · have gN : ∀ (u : List Nat) (τ : L2.St), n ∈ u → (wipe τ u)[n]? = if n < τ.length then some none else none := by
              intro u
              induction u with
              | nil => intro τ h; exact nomatch h
              | cons a u ih =>
                intro τ h
                show ((wipe τ u).set a none)[n]? = _
                by_cases ha : a = n
                · subst ha
                  rw [List.getElem?_set]
                  simp only [wipe_length, if_true]
                · rw [List.getElem?_set_ne ha]
                  rcases List.mem_cons.mp h with z | z
                  · exact (ha z.symm).elim
                  · exact ih τ z
            rw [gN u _ hn, gN u _ hn, wipe_length]
          · rw [wipe_out hn]
        exact ww vs σ
      · refine k2 _ Hs2 H2 σ3 s3 _ fun el r3 v2 Hs4 H4 f2 e4 s5 rv => ?_
        have hm : rl D acc ∈ r3 ++ (rl D acc :: rf) := by simp
        obtain ⟨ys, q1, q2⟩ := s5.rs _ hm
        have eA : Ext T Hs Hs4 := ((e.trans e').trans c1).trans e4
        have hj : (r3 ++ (rl D acc :: rf))[r3.length]? = some (rl D acc) := by simp
        refine ⟨ys, q1, Evl.sz_lt (by rw [q2.length]; omega), Hs4, acc ++ [el], r3, (e'.trans c1).trans e4, ?_, by rw [List.length_append]; simp; omega, f2⟩
        have s6 := s5.mut (y := rl D (acc ++ [el])) (o := .lst (ys ++ [v2])) hj rfl rfl True.intro ⟨_, upd_same, q2.append (.cons rv .nil)⟩
        have er : (r3 ++ (rl D acc :: rf)).set r3.length (rl D (acc ++ [el])) = r3 ++ (rl D (acc ++ [el]) :: rf) := by
          rw [List.set_append_right _ _ (Nat.le_refl _)]
          simp
        rw [er] at s6
        exact s.back eA s6
    · have he : i = ds.length := by omega
      subst he
      exact Or.inl ⟨a1 (Nat.le_refl _), q D acc r' Hs' H' (hd acc r' w) (e.trans e') (s'.perm List.perm_middle)⟩
theorem st_retNP {R : List D → Rs → Prop} (h : EvNP T K te g r R) (h2 : ∀ ds r', R ds r' → O.rt (.lst ds) r') : StD T K E (tRet te) g r O := fun rf Hs H σ s En G =>
  h rf Hs H σ s _ fun p ds r' Hs1 H1 hr e s' => by
    obtain ⟨ys, a1, a2⟩ := s'.rs _ (List.mem_cons_self)
    obtain ⟨s2, e2⟩ := s'.freeze (j := 0) rfl rfl a1
    exact G.rt _ _ _ _ _ _ _ (h2 ds r' hr) (e.trans e2) s2 (.lst upd_same (DRs.mono e2 ds a2))
theorem st_retN' (h : EvN T K te g r ds r1) (h2 : ∀ p, O.rt (.ref p) (rl p ds :: r1)) : StD T K E (tRet te) g r O := fun rf Hs H σ s En G =>
  h rf Hs H σ s _ fun p Hs1 H1 e s' => G.rt _ _ _ _ _ _ _ (h2 p) e s' (.ref p)
theorem EvP.mono {R R' : D → Rs → Prop} (h : EvP T K te g r R) (m : ∀ d r, R d r → R' d r) : EvP T K te g r R' := fun rf Hs H σ s Q q => h rf Hs H σ s Q fun d r' v Hs' H' hr => q d r' v Hs' H' (m d r' hr)
end
end DL
namespace DL
open PySem PySem.Spec PyProof.Rows L2
section
variable {T : Tb} {K : PySem.W.Frag} {E : XK} {g g' g2 : G} {r r' r1 r2 r3 : Rs} {ta tb tc te tl : TE} {t : TT} {x y z d : D} {ds es xs : List D} {tas : TA} {f : R2} {O O' : Out} {s1 s2 ts tu : TS} {i j k : Nat} {tg : TG} {C : Addr} {is : List Nat}
theorem sq_asg (h : Ev T K te g r d r1) (hg : EvG T K tg is d g g2) (hk : StD T K E ts g2 r1 O) : StD T K E (tSeq (tAsg te tg) ts) g r O := fun rf Hs H σ s En G =>
  h rf Hs H σ s _ fun v Hs1 H1 e s' rv => hg Hs1 H1 σ _ v s' rv _ fun σ' s2 _ => hk rf Hs1 H1 σ' s2 En (G.ext e)
theorem st_asg (h : Ev T K te g r d r1) (hg : EvG T K tg is d g g2) (hk : O.nx g2 r1) : StD T K E (tAsg te tg) g r O := fun rf Hs H σ s En G =>
  h rf Hs H σ s _ fun v Hs1 H1 e s' rv => hg Hs1 H1 σ _ v s' rv _ fun σ' s2 _ => G.nx _ _ _ _ _ hk e s2
/-- what is walked, some items and resources of X -/
def EvIx (T : Tb) (K : PySem.W.Frag) (ti : TI) (g : G) (r : Rs) (X : List D → Rs → Prop) : Prop := ∀ (rf : Rs) (Hs H : Hp) (σ : L2.St), SR T K Hs H σ g (r ++ rf) → ∀ R : It → Hp → Prop,
  (∀ ds r' J Hs' H', X ds r' → Ext T Hs Hs' → SR T K Hs' H' σ g (r' ++ rf) → Steps T K Hs' J ds → R J H') → ti σ H R
theorem eix_lst {R : D → Rs → Prop} {X : List D → Rs → Prop} (h : EvP T K tl g r R) (hR : ∀ d r', R d r' → ∃ ds, d = .lst ds ∧ X ds r') : EvIx T K (iList K tl) g r X := fun rf Hs H σ s Rk q => h rf Hs H σ s _ fun d r' v Hs1 H1 hr e s1 rv => by
  obtain ⟨ds, rfl, hX⟩ := hR d r' hr
  cases rv with
  | @lst a xs _ h1 h2 =>
    have hq : ∀ {Hs' H' : Hp}, Ext T Hs1 Hs' → Ext T Hs' H' → SqL K H' a xs := fun e1 e2 => Evl.sq_of (e2.keep _ _ (e1.keep _ _ h1 (fun _ z => nomatch z)) (fun _ z => nomatch z))
    refine ⟨a, rfl, ⟨xs, hq (Ext.refl _) s1.ex⟩, q ds r' _ _ _ hX e s1 fun i Hs' H' e1 e2 => ⟨fun hl => ⟨xs, hq e1 e2, by rw [h2.length]; exact hl⟩, fun d hd => ?_⟩⟩
    obtain ⟨v, g1, g2⟩ := h2.get hd
    have hx : SqL K H' a xs := hq e1 e2
    refine ⟨⟨xs, v, hx, g1⟩, fun v' H2 y => ?_⟩
    obtain ⟨e3, y⟩ := y
    subst e3
    have ev := y xs hx
    rw [g1] at ev
    cases ev
    exact ⟨Hs', Ext.refl _, DR.mono e1 d g2, fun σ g r s => s⟩
theorem st_forX {ti : TI} {X : List D → Rs → Prop} (h : EvIx T K ti g r X)
    (hk : ∀ ds r1, X ds r1 → ∃ I : Nat → G → Rs → Prop, I 0 g r1 ∧ (∀ (i : Nat) d g' r', ds[i]? = some d → I i g' r' → ∃ g2 is, EvG T K tg is d g' g2 ∧ StD T K E tu g2 r' { O with nx := I (i + 1), ct := I (i + 1), bk := O.nx }) ∧ ∀ g' r', I ds.length g' r' → O.nx g' r') :
    StD T K E (tFor ti tg tu) g r O := fun rf Hs H σ s En Gd =>
  h rf Hs H σ s _ fun ds r1 J Hs1 H1 hX e s1 st => by
    obtain ⟨I, h0, hs, hd⟩ := hk ds r1 hX
    refine ⟨fun i m σ' H' => m = ds.length - i ∧ i ≤ ds.length ∧ ∃ Hs' g' r', Ext T Hs1 Hs' ∧ SR T K Hs' H' σ' g' (r' ++ rf) ∧ I i g' r', ⟨_, rfl, Nat.zero_le _, Hs1, g, r1, Ext.refl _, s1, h0⟩, ?_⟩
    rintro i m σ' H' ⟨rfl, hi, Hs', g', r', e', s', w⟩
    obtain ⟨a1, a2⟩ := st i Hs' H' e' s'.ex
    by_cases hlt : i < ds.length
    · obtain ⟨b1, b2⟩ := a2 ds[i] (List.getElem?_eq_getElem hlt)
      refine Or.inr ⟨b1, fun σ2 H2 => ∃ Hs2 g2 r2, Ext T Hs1 Hs2 ∧ SR T K Hs2 H2 σ2 g2 (r2 ++ rf) ∧ I (i + 1) g2 r2, fun σ2 H2 ⟨Hs2, g2, r2, c1, c2, c3⟩ => ⟨ds.length - (i + 1), by omega, rfl, hlt, Hs2, g2, r2, c1, c2, c3⟩, fun v H2 y => ?_⟩
      obtain ⟨Hs2, c1, c2, c3⟩ := b2 v H2 y
      obtain ⟨g2, is, k1, k2⟩ := hs i _ g' r' (List.getElem?_eq_getElem hlt) w
      refine k1 Hs2 H2 σ' _ v (c3 _ _ _ s') c2 _ fun σ3 s3 _ => ?_
      have e2 : Ext T Hs Hs2 := (e.trans e').trans c1
      refine k2 rf Hs2 H2 σ3 s3 _ ⟨fun g3 r3 Hs3 H3 σ4 o e3 s4 => ⟨Hs3, g3, r3, (e'.trans c1).trans e3, s4, o⟩, (Gd.ext e2).rt, (Gd.ext e2).nx, fun g3 r3 Hs3 H3 σ4 o e3 s4 => ⟨Hs3, g3, r3, (e'.trans c1).trans e3, s4, o⟩, (Gd.ext e2).ex⟩
    · have he : i = ds.length := by omega
      subst he
      exact Or.inl ⟨a1 (Nat.le_refl _), Gd.nx _ _ _ _ _ (hd _ _ w) (e.trans e') s'⟩
/-- x is not None -/
theorem od_notN {b : Bool} (hx : ∀ Hs v, DR K Hs v x → decide (v = V.non) = b) : OpD T K (fun x y H Q => y = V.non ∧ Q (.bl (!decide (x = V.non))) H) x .non g r (.bl (!b)) r := fun rf Hs H σ u v s ru rv Q q => by
  cases rv
  rw [hx _ _ ru]
  exact ⟨rfl, q _ _ _ (Ext.refl _) s (.bl _)⟩
/-- a branch that is not taken -/
theorem sq_no (h : EvT T K t g r false r1) (hk : StD T K E ts g r1 O) : StD T K E (tSeq (tIfS t s1 tNext) ts) g r O := sq_if h (fun z => by cases z) fun _ => sq_next hk
end
end DL
namespace Bs
open PySem PySem.Spec PyProof.Rows L2 DL GX GxR
/-- a class of errors -/
structure Er (K : PySem.W.Frag) (mg : Str → Option Value) (x : Str) (C : Addr) : Prop where
  g : mg x = some (.ref C)
  k : PySem.W.keepIn K (.ref C) = true
  x : PySem.W.excIn K C [.type "ValueError", .type "Exception", .type "BaseException", .type "object"] "ValueError.__new__" = true
  b : PySem.W.subIn K (.ref C) (.type "BaseException") = some true
  t : PySem.W.typeIn K (.ref C) = some (.type "type")
structure Cal (P : Program) (w : World) (K : PySem.W.Frag) (mg : Str → Option Value) (base : Heap) (T : Tb) (x : Str) (k : Nat) (ps : List Str) (R : List D → Rs → Oc → Prop) : Prop where
  ex : ∃ (f : Addr) (fd : FuncData), FnOk P w K mg base (L2.CX P w) k f fd ps (spR T K ps.length R) ∧ mg x = some (.ref f) ∧ PySem.W.keepIn K (.ref f) = true ∧ Binds K fd ps []
/-- a def with a table -/
theorem okC {P : Program} {w : World} {K : PySem.W.Frag} {mg : Str → Option Value} {base : Heap} {x qual : Str} {st : Stmt} {f c : Addr} {fd : FuncData} {N ps : List Str} {k : Nat} {sp : Sp} (F : Fun K x qual st f fd) (hc : fd.code = .ref c) (S : FnScope N ps (defScope st)) (len : ∀ vs H Q E, sp vs H Q E → vs.length = ps.length)
    (hbody : ∀ (A : Around) (outer : List Env) (s : Shared) (H : Hp) (vs : List V) (Q : VK) (E : XK), Room k (A.deeper (envOfC qual (defScope st) s.heap.objs.size f (.ref c))) → sp vs H Q E →
      ∃ t, PSs (cxOf (L2.CX P w) P w K mg base N qual (defScope st) f (.ref c) A outer s H E) (defBody st) t ∧ t { nx := fun _ H' => Q .non H', rt := Q } (start N vs) H) : FnOk P w K mg base (L2.CX P w) (k + 1) f fd ps sp := by
  obtain ⟨oc, od, kV, doc, pm, an, cdv, ct, osl, e, lk, hcd⟩ := F.ex
  have e2 : cdv = .ref c := by rw [e] at hc; exact hc
  subst e2
  subst e
  exact fn_of lk hcd S len fun A outer s H vs Q E hr hsp => hbody A outer s H vs Q E hr hsp
/-! ### plain -/
/-- the bells from the first to the last -/
def rng (n : Nat) : List Int := (List.range n).map fun (i : Nat) => 1 + (i : Int)
def good (l : List Int) : Prop := 3 ≤ l.length ∧ l.length ≤ 12 ∧ srt l = rng l.length
instance (l : List Int) : Decidable (good l) := by unfold good; exact inferInstance
def bellC (b : Int) : Nat := SIGNS.cps.toList.getD (b - 1).toNat 0
def textOf (l : List Int) : Str := ⟨(l.map bellC).toArray⟩
def bellOf (c : Nat) : Int := ((SIGNS.cps.toList.idxOf c : Nat) : Int) + 1
def perm (a b : List Int) : List Int := b.map fun i => a.getD (i - 1).toNat 0
def und (a : List Int) : List Int := (rng a.length).map fun b => ((a.idxOf b : Nat) : Int) + 1
def lowN (a : List Int) (i : Nat) : Nat := ((a.drop (i + 1)).filter fun b => decide (b < a.getD i 0)).length
def invN (a : List Int) : Nat → Nat
  | 0 => 0
  | i + 1 => invN a i + lowN a i
def oddV (a : List Int) : Bool := decide (((invN a a.length : Nat) : Int) % 2 = 1)
/-! ### promises -/
def oc (p : Prop) [Decidable p] (d : D) (C : Addr) : Oc := if p then .one d [] else .err C []
theorem oc_y {p : Prop} [Decidable p] {d : D} {C : Addr} (h : p) : oc p d C = .one d [] := if_pos h
theorem oc_n {p : Prop} [Decidable p] {d : D} {C : Addr} (h : ¬ p) : oc p d C = .err C [] := if_neg h
abbrev Rel := List D → Rs → Oc → Prop
def R_rounds (C : Addr) : Rel := fun ds r o => ∃ n : Nat, n ≤ 1000 ∧ ds = [.int n] ∧ r = [] ∧ o = oc (3 ≤ n ∧ n ≤ 12) (rowD (rng n)) C
def R_check_row (C : Addr) : Rel := fun ds r o => ∃ l : List Int, l.length ≤ 1000 ∧ ds = [rowD l] ∧ r = [] ∧ o = oc (good l) .non C
theorem nb_ints (l : List Int) : nbs (l.map D.int) = true := by
  induction l with
  | nil => rfl
  | cons a l ih => simp [nbs, nb, ih]
theorem pl_ints (l : List Int) : pls (l.map D.int) = true := by
  induction l with
  | nil => rfl
  | cons a l ih => simp [pls, pl, ih]
theorem dep_ints (l : List Int) : deps (l.map D.int) = 0 := by
  induction l with
  | nil => rfl
  | cons a l ih => simp [deps, dep, ih]
theorem sh_row (l : List Int) : sh (rowD l) = true := by
  unfold sh
  simp [pl, dep, pl_ints, dep_ints]
theorem ints_inj {a b : List Int} (h : a.map D.int = b.map D.int) : a = b := by
  induction a generalizing b with
  | nil => cases b with
    | nil => rfl
    | cons _ _ => simp at h
  | cons x a ih => cases b with
    | nil => simp at h
    | cons y b =>
      simp at h
      rw [h.1, ih h.2]
theorem eq_row (a b : List Int) : eqD (rowD a) (rowD b) = decide (a = b) := by
  rw [Bool.eq_iff_iff, eqD_iff (by simp [nb, nb_ints]) (by simp [nb, nb_ints]), decide_eq_true_eq]
  constructor
  · intro h
    injection h with h
    exact ints_inj h
  · intro h
    rw [h]
theorem rng_len (n : Nat) : (rng n).length = n := by simp [rng]
theorem rng_mem {n : Nat} {b : Int} : b ∈ rng n ↔ 1 ≤ b ∧ b ≤ n := by
  unfold rng
  rw [List.mem_map]
  constructor
  · rintro ⟨i, hi, rfl⟩
    have := List.mem_range.mp hi
    omega
  · rintro ⟨h1, h2⟩
    exact ⟨(b - 1).toNat, List.mem_range.mpr (by omega), by omega⟩
theorem good_perm {l : List Int} (h : good l) : l.Perm (rng l.length) := by
  have := srt_perm l
  rw [h.2.2] at this
  exact this.symm
theorem good_mem {l : List Int} (h : good l) {b : Int} : b ∈ l ↔ 1 ≤ b ∧ b ≤ l.length := by
  rw [(good_perm h).mem_iff, rng_mem]
theorem rg_rng (n : Nat) : rgD 1 (((n : Int) + 1) - 1).toNat = (rng n).map D.int := by
  unfold rgD rng
  rw [List.map_map, show ((n : Int) + 1 - 1).toNat = n by omega]
  rfl
theorem getD_map {α β : Type} (f : α → β) (l : List α) (i : Nat) (a : α) : (l.map f).getD i (f a) = f (l.getD i a) := by
  rw [List.getD_eq_getElem?_getD, List.getD_eq_getElem?_getD, List.getElem?_map]
  cases l[i]? <;> rfl
theorem get_int {l : List Int} {i : Nat} {d : D} (h : (l.map D.int)[i]? = some d) : i < l.length ∧ d = .int (l.getD i 0) := by
  rw [List.getElem?_map] at h
  cases q : l[i]? with
  | none => rw [q] at h; cases h
  | some a =>
    rw [q] at h
    cases h
    refine ⟨(List.getElem?_eq_some_iff.mp q).1, ?_⟩
    rw [List.getD_eq_getElem?_getD, q]
    rfl
theorem getD_mem0 {l : List Int} {i : Nat} (h : i < l.length) : l.getD i 0 ∈ l := by
  rw [List.getD_eq_getElem?_getD, List.getElem?_eq_getElem h]
  exact List.getElem_mem h
theorem signs_len : SIGNS.cps.toList.length = 12 := by decide +kernel
theorem signs_sz : SIGNS.length ≤ 100000 := by decide +kernel
end Bs
/-! generator expressions with several names: the element's calculus over a list of items -/
namespace GY
open PySem PySem.Spec PyProof.Rows L2 GxR
abbrev ER := L2.St → Hp → List V → V → Prop
section
variable (X : Cx)
structure GSt (P : Addr) (σ : L2.St) (H : Hp) (cenv : Env) (xs : List Str) (vs : List V) (s : Shared) : Prop where
  ok : X.Ok
  kind : cenv.scope.kind = .function
  gl : cenv.globals = mainGlobals
  loc : ∀ x ∈ xs, cenv.scope.names.lookup x = some .local
  ns : ∃ m, s.heap.Ns cenv.locals m ∧ ∀ (i : Nat) x v, xs[i]? = some x → vs[i]? = some v → ∃ u, m x = some u ∧ RelV v u
  cp : ∀ (i : Nat) y v, X.N[i]? = some y → σ[i]? = some (some v) → cenv.scope.names.lookup y = some .free → ∃ c u, cenv.cells.lookup y = some c ∧ s.heap.IsCell c (some u) ∧ RelV v u
  tab : ∃ ps, H P = some (.tbl ps)
  iv : ∃ pins s1, Inv X pins σ H s1 ∧ ∀ b o, b ≠ P → s1.heap.get? b = some o → s.heap.get? b = some o
def GP (P : Addr) (xs : List Str) (sc : Scope) (e : Expr) (el : ER) : Prop := ∀ (σ : L2.St) (H : Hp) (vs : List V) (v : V), el σ H vs v → ∀ (cenv : Env) (A' : Around) (E' : Value → Shared → Prop) (s : Shared), A'.handled = none → cenv.scope = sc → GSt X P σ H cenv xs vs s →
  ∀ Q : Value → Shared → Prop, (∀ u s', RelV v u → Keeps s s' → Q u s') → wpAny (model X.prog X.w) A' (eval e cenv) Q E' s
end
section
variable {X : Cx} {P : Addr} {σ : L2.St} {H : Hp} {cenv : Env} {x : Str} {xs : List Str} {vs : List V} {s s' : Shared} {sc : Scope}
theorem GSt.keeps (g : GSt X P σ H cenv xs vs s) (k : Keeps s s') : GSt X P σ H cenv xs vs s' := by
  obtain ⟨h1, t1, rfl, k1⟩ := k
  refine ⟨g.ok, g.kind, g.gl, g.loc, ?_, fun i y v a b c => ?_, g.tab, ?_⟩
  · obtain ⟨m, a, b⟩ := g.ns
    exact ⟨m, a.keeps k1, b⟩
  · obtain ⟨c, u, h1, ⟨o, h2, h3⟩, h4⟩ := g.cp i y v a b c
    exact ⟨c, u, h1, ⟨o, k1 _ _ h2, h3⟩, h4⟩
  · obtain ⟨pins, s1, I, h⟩ := g.iv
    exact ⟨pins, s1, I, fun b o hb e => k1 b o (h b o hb e)⟩
theorem GSt.bk (g : GSt X P σ H cenv xs vs s) : ∀ b o, X.base.get? b = some o → s.heap.get? b = some o := fun b o e => by
  obtain ⟨pins, s1, I, h⟩ := g.iv
  obtain ⟨ps, hP⟩ := g.tab
  refine h b o (fun z => ?_) (I.bk b o e)
  have q := (I.bs b o e).2
  rw [z, hP] at q
  cases q
theorem GSt.tp (g : GSt X P σ H cenv xs vs s) {a : Addr} {ys : List V} (e : SqT X.K H a ys) : ∃ its : List Value, Vals ys its ∧ IsTup s.heap a its.toArray ∧ ys.length ≤ sizeLine := by
  obtain ⟨pins, s1, I, h⟩ := g.iv
  obtain ⟨ps, hP⟩ := g.tab
  obtain ⟨its, y1, ⟨o', y2, y3, n, y5⟩, y4⟩ := I.tuple e
  have hPs : s1.heap.get? P = some { cls := .none, data := .fields ps } := I.hok P _ hP
  refine ⟨its, y1, ⟨o', h a o' (fun z => ?_) y2, y3, n, y5⟩, y4⟩
  rw [z, hPs] at y2
  cases y2
  cases y5
def elItem (i : Nat) : ER := fun _ _ vs v => vs[i]? = some v
def elVar (i : Nat) : ER := fun σ _ _ v => σ[i]? = some (some v)
def elC (c : V) : ER := fun _ _ _ v => v = c
def elI (C : Int → Int → Prop) (h : Int → Int → Int) (a b : ER) : ER := fun σ H vs v => ∃ m n, a σ H vs (.int m) ∧ b σ H vs (.int n) ∧ C m n ∧ v = .int (h m n)
def elB (h : Int → Int → Bool) (a b : ER) : ER := fun σ H vs v => ∃ m n, a σ H vs (.int m) ∧ b σ H vs (.int n) ∧ v = .bl (h m n)
def elNot (a : ER) : ER := fun σ H vs v => ∃ c, a σ H vs (.bl c) ∧ v = .bl (!c)
def elOr (a b : ER) : ER := fun σ H vs v => ∃ c d, a σ H vs (.bl c) ∧ (c = false → b σ H vs (.bl d)) ∧ v = .bl (c || d)
def elChain (h h' : Int → Int → Bool) (a b c : ER) : ER := fun σ H vs v => ∃ m n k, a σ H vs (.int m) ∧ b σ H vs (.int n) ∧ c σ H vs (.int k) ∧ v = .bl (h m n && h' n k)
def elIxT (K : PySem.W.Frag) (a b : ER) : ER := fun σ H xv v => ∃ p ys i, a σ H xv (.ref p) ∧ b σ H xv (.int i) ∧ SqT K H p ys ∧ atI ys i = some v
def CmpI (X : Cx) (op : CmpOp) (h : Int → Int → Bool) : Prop := ∀ (A : Around) (E : Value → Shared → Prop) (s : Shared) (i j : Int) (t u : Tok) (Q : Value → Shared → Prop), Q (.bool (h i j)) s → wpAny (model X.prog X.w) A (compareOp op (.int i t) (.int j u)) Q E s
theorem cmp_lt : CmpI X .Lt fun i j => decide (i < j) := fun _ _ _ _ _ _ _ _ q => lt_int q
theorem cmp_le : CmpI X .LtE fun i j => decide (i ≤ j) := fun _ _ _ _ _ _ _ _ q => le_int q
theorem cmp_gt : CmpI X .Gt fun i j => decide (j < i) := fun _ _ _ _ _ _ _ _ q => gt_int q
theorem cmp_ge : CmpI X .GtE fun i j => decide (j ≤ i) := fun _ _ _ _ _ _ _ _ q => ge_int q
theorem cmp_eq : CmpI X .Eq fun i j => i == j := fun _ _ _ _ _ _ _ _ q => eq_int q
theorem cmp_ne : CmpI X .NotEq fun i j => i != j := fun _ _ _ _ _ _ _ _ q => ne_int q
theorem gp_item (i : Nat) {pos : Pos} (hi : xs[i]? = some x) (hd : (x == ("__debug__" : Str)) = false := by decide) : GP X P xs sc (.Name x pos) (elItem i) := fun σ H vs v e cenv A' E' s hA hs g Q q => by
  obtain ⟨m, a, b⟩ := g.ns
  obtain ⟨u, h1, h2⟩ := b i x v hi e
  exact wpAny_Name (wpAny_loadName_local g.kind (g.loc x (List.mem_of_getElem? hi)) a h1 (q u s h2 (keeps_refl s))) hd
theorem gp_var (i : Nat) {y : Str} {pos : Pos} (hN : X.N[i]? = some y) (hf : sc.names.lookup y = some .free) (hd : (y == ("__debug__" : Str)) = false := by decide) (hcd : (y == ("__classdict__" : Str)) = false := by decide) : GP X P xs sc (.Name y pos) (elVar i) := fun σ H vs v e cenv A' E' s hA hs g Q q => by
  have hf' : cenv.scope.names.lookup y = some .free := by rw [hs]; exact hf
  obtain ⟨c, u, h1, h2, h3⟩ := g.cp i y v hN e hf'
  exact wpAny_Name (wpAny_loadName_free g.kind hf' h1 h2 (q u s h3 (keeps_refl s)) hcd) hd
theorem gp_glob {y : Str} {u : Value} {c : V} {pos : Pos} (hk : (Env.kindOf { (default : Env) with scope := sc } y) = some .globalImplicit) (hm : X.mg y = some u) (r : RelV c u) (hd : (y == ("__debug__" : Str)) = false := by decide) : GP X P xs sc (.Name y pos) (elC c) := fun σ H vs v e cenv A' E' s hA hs g Q q => by
  subst e
  have hk' : cenv.kindOf y = some .globalImplicit := by
    have e : cenv.kindOf y = Env.kindOf { (default : Env) with scope := sc } y := by unfold Env.kindOf; rw [hs]
    rw [e]
    exact hk
  exact Calls.Name_function_global g.kind hk' (Calls.loadGlobal_global (by rw [g.gl]; exact g.ok.mod.glob.keeps g.bk) hm (q u s r (keeps_refl s))) hd
theorem gp_int {n : Int} {j : Nat} {pos : Pos} : GP X P xs sc (.Constant (.int n) j pos) (elC (.int n)) := fun σ H vs v e cenv A' E' s hA hs g Q q => by
  subst e
  exact wpAny_Constant_int (q _ _ ⟨_, rfl⟩ (keeps_tok s _))
def BinI (X : Cx) (op : Operator) (C : Int → Int → Prop) (h : Int → Int → Int) : Prop := ∀ (A : Around) (E : Value → Shared → Prop) (s : Shared) (i j : Int) (t u : Tok) (Q : Value → Shared → Prop), C i j → Q (.int (h i j) s.toks) { s with toks := s.toks + 1 } → wpAny (model X.prog X.w) A (binaryOp op (.int i t) (.int j u)) Q E s
theorem bin_add : BinI X .Add (fun _ _ => True) fun i j => i + j := fun _ _ _ _ _ _ _ _ _ q => add_int q
theorem bin_sub : BinI X .Sub (fun _ _ => True) fun i j => i - j := fun _ _ _ _ _ _ _ _ _ q => sub_int q
theorem bin_mod : BinI X .Mod (fun _ j => 0 < j) fun i j => i % j := fun _ _ _ i j _ _ _ hc q => by
  have h1 : (0 : Int) < j := hc
  exact mod_int' (by omega) (by rw [Int.fmod_eq_emod_of_nonneg i (by omega)]; exact q)
theorem gp_bin {op : Operator} {C : Int → Int → Prop} {h : Int → Int → Int} {a b : Expr} {ea eb : ER} {pos : Pos} (ho : BinI X op C h) (ha : GP X P xs sc a ea) (hb : GP X P xs sc b eb) : GP X P xs sc (.BinOp a op b pos) (elI C h ea eb) := fun σ H vs v e cenv A' E' s hA hs g Q q => by
  obtain ⟨m, n, h1, h2, hc, rfl⟩ := e
  refine wpAny_BinOp (ha σ H vs _ h1 cenv A' E' s hA hs g _ fun u s1 r1 k1 => hb σ H vs _ h2 cenv A' E' s1 hA hs (g.keeps k1) _ fun w s2 r2 k2 => ?_)
  obtain ⟨t, rfl⟩ := r1
  obtain ⟨t', rfl⟩ := r2
  exact ho _ _ _ _ _ _ _ _ hc (q _ _ ⟨_, rfl⟩ (PySem.Keeps.tr (PySem.Keeps.tr k1 k2) (keeps_tok _ _)))
theorem gp_cmp {op : CmpOp} {h : Int → Int → Bool} {a b : Expr} {ea eb : ER} {pos : Pos} (ho : CmpI X op h) (ha : GP X P xs sc a ea) (hb : GP X P xs sc b eb) (hm : behindInMarks op b = false) : GP X P xs sc (.Compare a [op] [b] pos) (elB h ea eb) := fun σ H vs v e cenv A' E' s hA hs g Q q => by
  obtain ⟨m, n, h1, h2, rfl⟩ := e
  refine wpAny_Compare1 (ha σ H vs _ h1 cenv A' E' s hA hs g _ fun u s1 r1 k1 => hb σ H vs _ h2 cenv A' E' s1 hA hs (g.keeps k1) _ fun w s2 r2 k2 => ?_) hm
  obtain ⟨t, rfl⟩ := r1
  obtain ⟨t', rfl⟩ := r2
  exact ho _ _ _ _ _ _ _ _ (q _ _ rfl (PySem.Keeps.tr k1 k2))
theorem gp_chain {op op' : CmpOp} {h h' : Int → Int → Bool} {a b c : Expr} {ea eb ec : ER} {pos : Pos} (ho : CmpI X op h) (ho' : CmpI X op' h') (ha : GP X P xs sc a ea) (hb : GP X P xs sc b eb) (hc : GP X P xs sc c ec) (hm : lastMarks [op, op'] [b, c] = false) :
    GP X P xs sc (.Compare a [op, op'] [b, c] pos) (elChain h h' ea eb ec) := fun σ H vs v e cenv A' E' s hA hs g Q q => by
  obtain ⟨m, n, k, h1, h2, h3, rfl⟩ := e
  refine Compare_chain (ha σ H vs _ h1 cenv A' E' s hA hs g _ fun u s1 r1 k1 => chain_link (hb σ H vs _ h2 cenv A' E' s1 hA hs (g.keeps k1) _ fun w s2 r2 k2 => ?_)) hm
  obtain ⟨t, rfl⟩ := r1
  obtain ⟨t', rfl⟩ := r2
  refine ho _ _ _ _ _ _ _ _ (wpAny_truthy_bool ?_)
  cases hh : h m n with
  | false => exact ite_ff (q _ _ (by rw [hh]; exact rfl) (PySem.Keeps.tr k1 k2))
  | true =>
    refine ite_tt (chain_last (hc σ H vs _ h3 cenv A' E' s2 hA hs (g.keeps (PySem.Keeps.tr k1 k2)) _ fun w' s3 r3 k3 => ?_))
    obtain ⟨t3, rfl⟩ := r3
    exact ho' _ _ _ _ _ _ _ _ (q _ _ (by rw [hh]; exact rfl) (PySem.Keeps.tr (PySem.Keeps.tr k1 k2) k3))
theorem gp_not {a : Expr} {ea : ER} {pos : Pos} (ha : GP X P xs sc a ea) : GP X P xs sc (.UnaryOp .Not a pos) (elNot ea) := fun σ H vs v e cenv A' E' s hA hs g Q q => by
  obtain ⟨c, h1, rfl⟩ := e
  refine UnaryOp_ (ha σ H vs _ h1 cenv A' E' s hA hs g _ fun u s1 r1 k1 => ?_)
  cases r1
  exact not_of (wpAny_truthy_bool (q _ _ rfl k1))
theorem gp_one {a : Expr} {ea : ER} {op : BoolOp} {pos : Pos} (ha : GP X P xs sc a ea) : GP X P xs sc (.BoolOp op [a] pos) ea := fun σ H vs v e cenv A' E' s hA hs g Q q => BoolOp_one (ha σ H vs v e cenv A' E' s hA hs g Q q)
theorem gp_or {a b : Expr} {rest : List Expr} {ea eb : ER} {pos : Pos} (ha : GP X P xs sc a ea) (hb : GP X P xs sc (.BoolOp .Or (b :: rest) pos) eb) : GP X P xs sc (.BoolOp .Or (a :: b :: rest) pos) (elOr ea eb) := fun σ H vs v e cenv A' E' s hA hs g Q q => by
  obtain ⟨c, d, h1, h2, rfl⟩ := e
  refine BoolOp_or (ha σ H vs _ h1 cenv A' E' s hA hs g _ fun u s1 r1 k1 => ?_)
  cases r1
  refine wpAny_truthy_bool ?_
  cases c with
  | true => exact ite_tt (q _ _ rfl k1)
  | false => exact ite_ff (hb σ H vs _ (h2 rfl) cenv A' E' s1 hA hs (g.keeps k1) Q fun u s2 r2 k2 => q u s2 r2 (PySem.Keeps.tr k1 k2))
theorem gp_ixT {a b : Expr} {ea eb : ER} {pos : Pos} (ha : GP X P xs sc a ea) (hb : GP X P xs sc b eb) (hp : PlainIx b) : GP X P xs sc (.Subscript a b pos) (elIxT X.K ea eb) := fun σ H vs v e cenv A' E' s hA hs g Q q => by
  obtain ⟨p, ys, i, h1, h2, h3, h4⟩ := e
  refine Subscript_ (ha σ H vs _ h1 cenv A' E' s hA hs g _ fun u s1 r1 k1 => hb σ H vs _ h2 cenv A' E' s1 hA hs (g.keeps k1) _ fun w s2 r2 k2 => ?_)
  cases r1
  obtain ⟨t, rfl⟩ := r2
  obtain ⟨its, r, pl, hz⟩ := (g.keeps (PySem.Keeps.tr k1 k2)).tp h3
  obtain ⟨j, z1, z2, z3, z4, z5⟩ := atI_get h4
  obtain ⟨w, ew, rw'⟩ := r.get z2
  have hl := r.length
  have hn := line63
  exact subscriptTail_builtinR (x := w) pl.typeIs slot_tuple_getitem.lookup
    (getItem_tuple (j := j) (Q := fun r s' => r = w ∧ Q r s') pl (by omega) (by omega) (by rw [List.size_toArray, ← hl]; exact z1) (by simpa using ew) ⟨rfl, q _ _ rw' (PySem.Keeps.tr k1 k2)⟩) (hp _ _)
end
end GY
namespace GY
open PySem PySem.Spec PyProof.Rows L2 GxR
theorem sep_of (n a b : Nat) (la : a < n) (lb : b < n) : ZipSep2 (n + 4) (n + 2) (n + 3) n (n + 1) [n, a] [n + 1, b] := by
  have ne : ∀ x y : Nat, x ≠ y → (x : Addr) ≠ (y : Addr) := fun _ _ h => h
  have nm : ∀ x y z : Nat, x ≠ y → x ≠ z → (x : Addr) ∉ ([y, z] : List Addr) := fun x y z h1 h2 hm => by
    rcases List.mem_cons.mp hm with e | e
    · exact h1 e
    · rcases List.mem_cons.mp e with e | e
      · exact h2 e
      · cases e
  exact ⟨ne _ _ (by omega), ne _ _ (by omega), ne _ _ (by omega), ne _ _ (by omega), List.mem_cons_self, nm _ _ _ (by omega) (by omega), nm _ _ _ (by omega) (by omega), ne _ _ (by omega), List.mem_cons_self, nm _ _ _ (by omega) (by omega), nm _ _ _ (by omega) (by omega), nm _ _ _ (by omega) (by omega), nm _ _ _ (by omega) (by omega)⟩
section
variable {X : Cx} {pins : List (Addr × Obj)} {σ : L2.St} {H : Hp} {s : Shared}
theorem gen_zip {c P : Addr} {elt e1 e2 : Expr} {xa xb : Str} {pa pb pt p zpos gpos : Pos} {kt : Nat} {scope : Scope} {el : ER} {ta : TA} {k : Nat} {Q' : Value → Shared → Prop} {R : List V → List V → Hp → (Nat → V) → Prop}
    (hr : Room k X.A) (TB : TabB X.base X.mg c P) (hcode : X.env.code = .ref c) (S : GenS X.env scope xa) (Sb : scope.names.lookup xb = some .local) (hab : xa ≠ xb) (hg : Gl X "zip") (hm : X.mg "zip" = none) (ha : PA X [e1, e2] ta) (hel : GP X P [xa, xb] scope elt el)
    (hs : ∀ v, genFold (.Call (.Name "zip" p) [e1, e2] [] zpos) X.env v = pure v) (hvis : ∀ y, scope.names.lookup y = some .free → X.env.scope.names.lookup y = some .cell ∨ X.env.scope.names.lookup y = some .free) (I : Inv X pins σ H s)
    (h : ta σ H fun vs H1 => ∃ a b xs ys, vs = [.ref a, .ref b] ∧ SqT X.K H1 a xs ∧ SqT X.K H1 b ys ∧ TabG H1 P ∧ ∃ f : Nat → V, (∀ (i : Nat) x y, xs[i]? = some x → ys[i]? = some y → el σ H1 [x, y] (f i)) ∧ R xs ys H1 f)
    (hQ : ∀ xs ys H1 f g s5, R xs ys H1 f → GX.ReadyV X pins σ H1 P (min xs.length ys.length) f g s5 → Q' (.ref g) s5)
    (hss : starEach [e1, e2] X.env = (false, eval e1 X.env) :: starEach [e2] X.env := by rfl) (hpl : (backTo zpos (starEach [e2] X.env)).any (·.1) = false := by rfl) :
    wpAny (model X.prog X.w) X.A (eval (.GeneratorExp elt [⟨.Tuple [.Name xa pa, .Name xb pb] kt pt, .Call (.Name "zip" p) [e1, e2] [] zpos, [], 0⟩] scope gpos) X.env) Q' X.xe s := by
  refine wpAny_GeneratorExp_walksQT hr.hd S.co (closure_ok S.free) S.cell S.dot S.loc Sb hab S.kind (by have := hr.dp; omega) ?_ hs
  refine Call_ (ld_blt I hg hm PyProof.Rows.boot_zip (PyProof.Rows.callWith_type1 (thn (ha.run zpos pins s σ H _ I h) fun us s1 ⟨vs, H1, I1, r1, q1⟩ => ?_) hss hpl))
  obtain ⟨a, b, xs, ys, ex, hqx, hqy, ⟨ps, hP, ht⟩, f, hf, q1⟩ := q1
  subst ex
  cases r1 with
  | cons r rr =>
  cases rr with
  | cons r' rr =>
  cases rr
  cases r
  cases r'
  obtain ⟨its, rv, p1, _⟩ := I1.tuple hqx
  obtain ⟨its2, rv2, p2, _⟩ := I1.tuple hqy
  have la : a < s1.heap.objs.size := let ⟨o, ho, _⟩ := p1; Heap.lt_size ho
  have lb : b < s1.heap.objs.size := let ⟨o, ho, _⟩ := p2; Heap.lt_size ho
  generalize hn : s1.heap.objs.size = n at la lb
  refine RZ.call_zipT (show s1.heap.IsTuple a its.toArray from p1) (show s1.heap.IsTuple b its2.toArray from p2) fun hz0 hz hTI hTO hi1 hi2 hszz hkz => wpAny_pyIter_zip hz ?_
  rw [hn] at hz hTI hTO hi1 hi2 hszz ⊢
  have Sep := sep_of n a b la lb
  have W := fun (A' : Around) (hA : A'.handled = none) => (WalksT.zipD2 (prog := X.prog) (w := X.w) (A := A') Sep (Draws.tuple (A := A'.in1) hA n a (Nat.ne_of_lt la) its.toArray) (Draws.tuple (A := A'.in1) hA (n + 1) b (Nat.ne_of_lt (Nat.lt_succ_of_lt lb)) its2.toArray)).toU.bound
  have hmin : min its.toArray.size its2.toArray.size = min xs.length ys.length := by rw [List.size_toArray, List.size_toArray, rv.length, rv2.length]
  rw [hmin] at W
  have I2 : Inv X pins σ H1 { s1 with heap := hz0 } := I1.kept (t' := s1.toks) hkz
  have hPs : s1.heap.get? P = some { cls := .none, data := .fields ps } := I1.hok P _ hP
  have hPlt : P < n := by rw [← hn]; exact Heap.lt_size hPs
  have hP2 : hz0.get? P = some { cls := .none, data := .fields ps } := hkz _ _ hPs
  have cd : PySem.W.CodeHd hz0 c P := TB.code.keeps fun b u e => hkz b u (I1.bk b u e)
  have lim2 : hz0.NoLimit := I2.nolimit
  have wrn : ∀ d : Addr, d ∈ ([n + 4, n + 3, n, n + 1] : List Addr) → n ≤ d := fun d hd => by
    rcases List.mem_cons.mp hd with z | hd
    · rw [z]; exact Nat.le_add_right _ _
    rcases List.mem_cons.mp hd with z | hd
    · rw [z]; exact Nat.le_add_right _ _
    rcases List.mem_cons.mp hd with z | hd
    · rw [z]; exact Nat.le_refl _
    rcases List.mem_cons.mp hd with z | hd
    · rw [z]; exact Nat.le_add_right _ _
    cases hd
  have nw : ∀ b u, s1.heap.get? b = some u → b ∉ ([n + 4, n + 3, n, n + 1] : List Addr) := fun b u e hb => by
    have hl := Heap.lt_size e
    rw [hn] at hl
    exact Nat.lt_irrefl _ (Nat.lt_of_lt_of_le hl (wrn b hb))
  have fpl : ∀ d : Addr, d ∈ ((n + 4) :: (n + 2) :: (n + 3) :: (([n, a] : List Addr) ++ [n + 1, b]) : List Addr) → d < n + 5 ∧ d ≠ P := fun d hd => by
    have aP : a ≠ P := fun z => by
      obtain ⟨o', y2, y3, m, y5⟩ := p1
      rw [z, hPs] at y2
      cases y2
      cases y5
    have bP : b ≠ P := fun z => by
      obtain ⟨o', y2, y3, m, y5⟩ := p2
      rw [z, hPs] at y2
      cases y2
      cases y5
    have big : ∀ m : Nat, n ≤ m → (m : Addr) ≠ P := fun m hm z => Nat.lt_irrefl _ (Nat.lt_of_lt_of_le hPlt (by rw [← z]; exact hm))
    rcases List.mem_cons.mp hd with z | hd
    · rw [z]; exact ⟨Nat.lt_succ_self _, big _ (Nat.le_add_right _ _)⟩
    rcases List.mem_cons.mp hd with z | hd
    · rw [z]; exact ⟨Nat.add_lt_add_left (by decide) n, big _ (Nat.le_add_right _ _)⟩
    rcases List.mem_cons.mp hd with z | hd
    · rw [z]; exact ⟨Nat.add_lt_add_left (by decide) n, big _ (Nat.le_add_right _ _)⟩
    rcases List.mem_cons.mp hd with z | hd
    · rw [z]; exact ⟨Nat.lt_add_of_pos_right (by decide), big _ (Nat.le_refl _)⟩
    rcases List.mem_cons.mp hd with z | hd
    · rw [z]; exact ⟨Nat.lt_of_lt_of_le la (Nat.le_add_right _ _), aP⟩
    rcases List.mem_cons.mp hd with z | hd
    · rw [z]; exact ⟨Nat.add_lt_add_left (by decide) n, big _ (Nat.le_add_right _ _)⟩
    rcases List.mem_cons.mp hd with z | hd
    · rw [z]; exact ⟨Nat.lt_of_lt_of_le lb (Nat.le_add_right _ _), bP⟩
    cases hd
  have cont : ∀ (code : Value) (h3 : Heap) (tk : Nat) (ps' : Array Value), Heap.ExtBut P hz0 h3 → hz0.objs.size ≤ h3.objs.size → h3.get? P = some { cls := .none, data := .fields ps' } → (∃ more, ps' = ps ++ more) → TriplesOk ps'.toList →
      wpAny (model X.prog X.w) X.A (builtinsFor X.env.globals X.env.builtins) (fun bi s₄ =>
        ∃ Ia fp wr n₀ Pt St₀ Mid pz F, Value.ref (n + 4) = .ref Ia ∧ (∀ A' : Around, A'.handled = none → WalksU X.prog X.w A' Ia fp wr n₀ Pt St₀ Mid) ∧ (∀ i vals, Pt i vals → ∃ va vb, vals = #[va, vb]) ∧ St₀ 0 s₄.heap ∧ (∀ b ∈ fp, b < s₄.heap.objs.size) ∧ s₄.heap.NoLimit ∧ cStatics ∉ wr ∧
          (∀ href : Heap, (∀ b o, s₄.heap.get? b = some o → href.get? b = some o) →
            QuietGenT X.prog X.w (genEnv scope (cloFrom X.env.cells scope.names []) s₄.heap.objs.size code bi X.env) xa xb [] elt (List.range s₄.heap.objs.size) wr Pt pz F href) ∧
          (∀ a h₅ tk gs, gs.bare = true → s₄.heap.objs.size < a → h₅.objs.size = a + 1 → (∀ b o, s₄.heap.get? b = some o → h₅.get? b = some o) →
            WalksS X.prog X.w X.A.in4 a (a :: s₄.heap.objs.size :: List.range s₄.heap.objs.size) (s₄.heap.objs.size :: wr) (GenOnlyQ s₄.gens.size) (passing pz n₀ 0).length
              (fun j y => ∃ i, (passing pz n₀ 0)[j]? = some i ∧ F i y) (GenAt X.prog X.w X.A.in4 a s₄.gens.size s₄.heap.objs.size (List.range s₄.heap.objs.size) wr pz n₀ F) →
            GenAt X.prog X.w X.A.in4 a s₄.gens.size s₄.heap.objs.size (List.range s₄.heap.objs.size) wr pz n₀ F 0 { s₄ with gens := s₄.gens.push gs, toks := tk, heap := h₅ } →
            Q' (.ref a) { s₄ with gens := s₄.gens.push gs, toks := tk, heap := h₅ })) X.xe { s1 with heap := h3, toks := tk } := by
    intro code h3 tk ps' hx hsz hP3 hmore ht3
    obtain ⟨bm, ob, e1, e2, e3, e4, e5, e6, e7, e8⟩ := TB.bm
    have hcP : cStatics ≠ P := fun e => by
      obtain ⟨_, hns, _⟩ := I1.nolimit
      obtain ⟨o', es, ep, ho, hd, _⟩ := hns
      rw [e, hPs] at ho
      cases ho
      cases hd
    have hcl : cStatics < n := by
      rw [← hn]
      exact let ⟨_, hns, _⟩ := I1.nolimit; hns.lt
    have hs3 : n + 5 ≤ h3.objs.size := by rw [hszz] at hsz; exact hsz
    have keep3 : ∀ b u, b ≠ P → s1.heap.get? b = some u → h3.get? b = some u := fun b u hb e => hx b u hb (hkz b u e)
    refine wpAny_builtinsFor (m := X.mg) (by rw [I1.ok.glob]; exact ((I1.mod.glob.keeps I1.bk).keeps hkz).extBut hx TB.gP) e1 e2 (keep3 _ _ e4 (I1.bk _ _ e5)) e6 e7 e8 ?_
    refine ⟨n + 4, _, _, _, _, _, _, (fun _ => true), (fun i y => i < min xs.length ys.length ∧ RelV (f i) y), rfl, W, fun i vals hv => ?_, ?_, ?_, lim2.extBut hx hcP, ?_, ?_, ?_⟩
    · obtain ⟨_, x1, x2, _, _, e⟩ := hv
      exact ⟨x1, x2, e⟩
    · refine (W X.A hr.hd).frame 0 hz0 h3 ⟨hz, hTI, ⟨_, _, hTO⟩, ⟨hi1, (show s1.heap.IsTuple a its.toArray from p1).at fun o e => hkz a o e⟩, hi2, (show s1.heap.IsTuple b its2.toArray from p2).at fun o e => hkz b o e⟩ fun d hd u e => hx d u (fpl d hd).2 e
    · intro d hd
      exact Nat.lt_of_lt_of_le (fpl d hd).1 hs3
    · intro z
      exact Nat.lt_irrefl _ (Nat.lt_of_lt_of_le hcl (wrn _ z))
    · intro href hhref
      refine ⟨fun A' E' i va vb s₂ m₂ hA hPv hn2 hma hmb hk => ?_, fun A' E' i va vb s₂ m₂ hA hPv hp hn2 hma hmb hk => ?_⟩
      · simp only [List.forIn_nil]
        exact wpAny_pure ⟨rfl, keeps_refl _⟩
      · obtain ⟨hlt, x1, x2, h1, h2, hv⟩ := hPv
        obtain ⟨rfl, rfl⟩ : va = x1 ∧ vb = x2 := by simpa using congrArg Array.toList hv
        have hlx : i < xs.length := by omega
        have hly : i < ys.length := by omega
        have up : ∀ b u, b ≠ P → s1.heap.get? b = some u → s₂.heap.get? b = some u := fun b u hb e => by
          have l1 : b < h3.objs.size := by
            refine Nat.lt_of_lt_of_le (Heap.lt_size e) ?_
            rw [hn]
            exact Nat.le_trans (Nat.le_add_right _ _) hs3
          exact hk b (List.mem_range.mpr l1) (nw b u e) u (hhref b u (keep3 b u hb e))
        obtain ⟨w1, ew1, rw1⟩ := rv.get (List.getElem?_eq_getElem hlx)
        obtain ⟨w2, ew2, rw2⟩ := rv2.get (List.getElem?_eq_getElem hly)
        have h1' : its[i]? = some va := by simpa using h1
        have h2' : its2[i]? = some vb := by simpa using h2
        rw [h1'] at ew1
        cases ew1
        rw [h2'] at ew2
        cases ew2
        refine hel σ H1 [xs[i], ys[i]] (f i) (hf i _ _ (List.getElem?_eq_getElem hlx) (List.getElem?_eq_getElem hly)) _ A' E' s₂ hA ?_ ?_ _ fun u s' ru ku => ⟨⟨hlt, ru⟩, ku⟩
        · rfl
        refine ⟨I1.ok, S.kind, I1.ok.glob, fun x hx => ?_, ⟨m₂, hn2, fun j x v e1 e2 => ?_⟩, fun j y u e1 e2 e3 => ?_, ⟨ps, hP⟩, ⟨pins, s1, I1, up⟩⟩
        · rcases List.mem_cons.mp hx with z | hx
          · rw [z]; exact S.loc
          rcases List.mem_cons.mp hx with z | hx
          · rw [z]; exact Sb
          cases hx
        · match j with
          | 0 => cases e1; cases e2; exact ⟨va, hma, rw1⟩
          | 1 => cases e1; cases e2; exact ⟨vb, hmb, rw2⟩
          | j + 2 => cases e1
        · obtain ⟨m, hm1, hl⟩ := I1.loc
          have e3' : scope.names.lookup y = some .free := e3
          have hv := hvis y e3'
          obtain ⟨w, rw', lk⟩ := hl j y u e1 e2 (by rcases hv with z | z; exact Or.inr (Or.inl z); exact Or.inr (Or.inr z))
          obtain ⟨cc, hc1, oc, hc2, hc3⟩ : ∃ cc, X.env.cells.lookup y = some cc ∧ s1.heap.IsCell cc (some w) := by
            rcases lk with ⟨z, _⟩ | ⟨_, z⟩
            · have z' : X.env.scope.names.lookup y = some .local := z
              rcases hv with q | q <;> rw [q] at z' <;> cases z'
            · exact z
          have ncP : cc ≠ P := fun z => by
            rw [z, hPs] at hc2
            cases hc2
            cases hc3
          obtain ⟨c2, hc4⟩ := mem_lookup (cloFrom_has (cells := X.env.cells) (acc := []) (PySem.mem_of_lookup e3'))
          refine ⟨c2, w, hc4, ?_, rw'⟩
          have hc5 := PySem.mem_of_lookup hc4
          rcases cloFrom_mem hc5 with z | ⟨_, z⟩
          · cases z
          · have : c2 = cc := by rw [z, hc1]; rfl
            rw [this]
            exact ⟨oc, up cc oc ncP hc2, hc3⟩
    · intro g h5 tk5 gs hgb hag hsz5 hk5 W5 hat
      simp only [GxR.passing_true, List.length_range] at W5
      refine hQ xs ys H1 f g _ q1 ⟨_, _, _, _, _, W5, hat, ?_, List.mem_cons_self, fun i s9 h9 => ?_, ?_, fun s' hmv => ?_⟩
      · intro b hb
        show b < h5.objs.size
        have e5 : h5.objs.size = g + 1 := hsz5
        have h8 : h3.objs.size < g := hag
        rw [e5]
        rcases List.mem_cons.mp hb with z | z
        · rw [z]
          exact Nat.lt_succ_self g
        · rcases List.mem_cons.mp z with z | z
          · rw [z]
            exact Nat.lt_succ_of_lt h8
          · have z2 := List.mem_range.mp z
            have h7 : b < h3.objs.size := z2
            exact Nat.lt_succ_of_lt (Nat.lt_trans h7 h8)
      · obtain ⟨hg9, _⟩ := h9
        exact hg9.typeIs
      · intro j y hy
        obtain ⟨i, hij, h1, h2⟩ := hy
        obtain ⟨hj, ej⟩ := List.getElem?_eq_some_iff.mp hij
        rw [List.getElem_range] at ej
        subst ej
        exact ⟨h1, h2⟩
      · obtain ⟨more, em⟩ := hmore
        have nwr : ∀ b u, s1.heap.get? b = some u → b ∉ h3.objs.size :: ([n + 4, n + 3, n, n + 1] : List Addr) := fun b u e hb => by
          rcases List.mem_cons.mp hb with z | z
          · have hl := Heap.lt_size e
            rw [hn, z] at hl
            exact Nat.lt_irrefl _ (Nat.lt_of_lt_of_le hl (Nat.le_trans (Nat.le_add_right _ _) hs3))
          · exact nw b u e z
        have J := inv_tab (more := more) (h' := s'.heap) (g' := s'.gens) (d' := s'.drawn) (t' := s'.toks) I1 hP (fun b u hb e => hmv.heap b u (nwr b u e) (hk5 b u (keep3 b u hb e)))
          (by rw [← em]; exact hmv.heap P _ (nwr P _ hPs) (hk5 P _ hP3)) (AllBare.movedS (I1.bare.push hgb) hmv)
        rw [sh_eta s1 s' hmv.os] at J
        refine ⟨upd H1 P (.tbl (ps ++ more)), ⟨⟨ps ++ more, upd_same, by rw [← em]; exact ht3⟩, fun b hb => upd_ne hb⟩, J⟩
  refine ⟨lim2, ?_⟩
  cases hf2 : codeAmong gpos ps.toList with
  | none =>
    refine wpAny_genexprCodeX hcode (cd.code hP2 ht) (cd.tab hP2) hf2 fun c' h' tk hx hge hlt hco' _ htab' _ => ?_
    obtain ⟨o1, vs, f1, tf, fl, tg, inF, tx, tt, op, _, _, _, _, _, _, _, _, _, htr, _⟩ := hco'
    exact cont _ h' tk _ hx (Nat.le_trans hge (Nat.le_of_lt hlt)) htab'.2 ⟨_, rfl⟩ htr
  | some cv =>
    refine wpAny_genexprCode_hit hcode (cd.code hP2 ht) hf2 ?_
    exact cont cv hz0 s1.toks ps (Heap.ExtBut.refl _ _) (Nat.le_refl _) hP2 ⟨#[], by simp⟩ ht
end
end GY
namespace GY
open PySem PySem.Spec PyProof.Rows L2 GxR
section
variable {X : Cx} {pins : List (Addr × Obj)} {σ : L2.St} {H : Hp} {s : Shared}
theorem gen_any {c P : Addr} {elt iter : Expr} {x : Str} {px gpos : Pos} {scope : Scope} {el : ER} {te : TE} {iw : V → Hp → List V → Prop} {k : Nat} {Q' : Value → Shared → Prop} {R : List V → Hp → (Nat → V) → Prop}
    (hr : Room k X.A) (TB : TabB X.base X.mg c P) (hcode : X.env.code = .ref c) (S : GenS X.env scope x) (hi : PE X iter te) (hiw : GX.IW X iw) (hel : GP X P [x] scope elt el)
    (hs : ∀ v, genFold iter X.env v = pure v) (hvis : ∀ y, scope.names.lookup y = some .free → X.env.scope.names.lookup y = some .cell ∨ X.env.scope.names.lookup y = some .free) (I : Inv X pins σ H s)
    (h : te σ H fun v H1 => ∃ xs, iw v H1 xs ∧ TabG H1 P ∧ ∃ f : Nat → V, (∀ (i : Nat) x, xs[i]? = some x → el σ H1 [x] (f i)) ∧ R xs H1 f)
    (hQ : ∀ xs H1 f g s5, R xs H1 f → GX.ReadyV X pins σ H1 P xs.length f g s5 → Q' (.ref g) s5) :
    wpAny (model X.prog X.w) X.A (eval (.GeneratorExp elt [⟨.Name x px, iter, [], 0⟩] scope gpos) X.env) Q' X.xe s := by
  refine wpAny_GeneratorExp_walksQ hr.hd S.co (closure_ok S.free) S.cell S.dot S.loc S.kind (by have := hr.dp; omega) ?_ hs
  refine thn (hi.run pins s σ H _ I h) fun xv s1 ⟨v, H1, I1, r1, q1⟩ => ?_
  obtain ⟨xs, hxs, ⟨ps, hP, ht⟩, f, hf, q1⟩ := q1
  refine hiw pins σ H1 s1 v xv xs I1 r1 hxs _ _ fun o fp St Pf W hPf hst hfp => ?_
  have hPs : s1.heap.get? P = some { cls := .none, data := .fields ps } := I1.hok P _ hP
  have hPlt : P < s1.heap.objs.size := Heap.lt_size hPs
  have hP2 : (s1.heap.push o).get? P = some { cls := .none, data := .fields ps } := Heap.get?_push_of_some _ hPs
  have cd : PySem.W.CodeHd (s1.heap.push o) c P := TB.code.keeps fun b u e => Heap.get?_push_of_some _ (I1.bk b u e)
  have lim2 : (s1.heap.push o).NoLimit := I1.nolimit.push o
  have cont : ∀ (code : Value) (h3 : Heap) (tk : Nat) (ps' : Array Value), Heap.ExtBut P (s1.heap.push o) h3 → (s1.heap.push o).objs.size ≤ h3.objs.size → h3.get? P = some { cls := .none, data := .fields ps' } → (∃ more, ps' = ps ++ more) → TriplesOk ps'.toList →
      wpAny (model X.prog X.w) X.A (builtinsFor X.env.globals X.env.builtins) (fun bi s₄ =>
        ∃ Ia fp wr n₀ Pf St₀ pz F, Value.ref s1.heap.objs.size = .ref Ia ∧ (∀ A' : Around, A'.handled = none → Walks X.prog X.w A' Ia fp wr n₀ Pf St₀) ∧ St₀ 0 s₄.heap ∧ (∀ b ∈ fp, b < s₄.heap.objs.size) ∧ s₄.heap.NoLimit ∧ cStatics ∉ wr ∧
          (∀ href : Heap, (∀ b o, s₄.heap.get? b = some o → href.get? b = some o) →
            QuietGen X.prog X.w (genEnv scope (cloFrom X.env.cells scope.names []) s₄.heap.objs.size code bi X.env) x [] elt (List.range s₄.heap.objs.size) wr Pf pz F href) ∧
          (∀ a h₅ tk gs, gs.bare = true → s₄.heap.objs.size < a → h₅.objs.size = a + 1 → (∀ b o, s₄.heap.get? b = some o → h₅.get? b = some o) →
            WalksS X.prog X.w X.A.in4 a (a :: s₄.heap.objs.size :: List.range s₄.heap.objs.size) (s₄.heap.objs.size :: wr) (GenOnlyQ s₄.gens.size) (passing pz n₀ 0).length
              (fun j y => ∃ i, (passing pz n₀ 0)[j]? = some i ∧ F i y) (GenAt X.prog X.w X.A.in4 a s₄.gens.size s₄.heap.objs.size (List.range s₄.heap.objs.size) wr pz n₀ F) →
            GenAt X.prog X.w X.A.in4 a s₄.gens.size s₄.heap.objs.size (List.range s₄.heap.objs.size) wr pz n₀ F 0 { s₄ with gens := s₄.gens.push gs, toks := tk, heap := h₅ } →
            Q' (.ref a) { s₄ with gens := s₄.gens.push gs, toks := tk, heap := h₅ })) X.xe { s1 with heap := h3, toks := tk } := by
    intro code h3 tk ps' hx hsz hP3 hmore ht3
    obtain ⟨bm, ob, e1, e2, e3, e4, e5, e6, e7, e8⟩ := TB.bm
    have hcP : cStatics ≠ P := fun e => by
      obtain ⟨_, hns, _⟩ := I1.nolimit
      obtain ⟨o', es, ep, ho, hd, _⟩ := hns
      rw [e, hPs] at ho
      cases ho
      cases hd
    have hcl : cStatics < s1.heap.objs.size := let ⟨_, hns, _⟩ := I1.nolimit; hns.lt
    have sz2 : (s1.heap.push o).objs.size = s1.heap.objs.size + 1 := Heap.size_push ..
    have hs3 : s1.heap.objs.size < h3.objs.size := by rw [sz2] at hsz; exact hsz
    have keep3 : ∀ b u, b ≠ P → s1.heap.get? b = some u → h3.get? b = some u := fun b u hb e => hx b u hb (Heap.get?_push_of_some _ e)
    refine wpAny_builtinsFor (m := X.mg) (by rw [I1.ok.glob]; exact ((I1.mod.glob.keeps I1.bk).push o).extBut hx TB.gP) e1 e2 (keep3 _ _ e4 (I1.bk _ _ e5)) e6 e7 e8 ?_
    refine ⟨s1.heap.objs.size, fp, [s1.heap.objs.size], xs.length, Pf, St, (fun _ => true), (fun i y => i < xs.length ∧ RelV (f i) y), rfl, W, ?_, ?_, lim2.extBut hx hcP, ?_, ?_, ?_⟩
    · refine (W X.A hr.hd).frame _ _ _ hst fun b hb u e => hx b u (fun z => ?_) e
      rcases hfp b hb with z2 | ⟨ob', h1, h2⟩
      · exact Nat.ne_of_lt hPlt (z.symm.trans z2)
      · rw [z, hPs] at h1
        cases h1
        exact h2 _ rfl
    · intro b hb
      show b < h3.objs.size
      rcases hfp b hb with z | ⟨ob', h1, h2⟩
      · rw [z]
        exact hs3
      · exact Nat.lt_trans (Heap.lt_size h1) hs3
    · intro z
      rcases List.mem_cons.mp z with z | z
      · exact Nat.ne_of_lt hcl z
      · cases z
    · intro href hhref
      refine ⟨fun A' E' i v s₂ m₂ hA hPv hn hm hk => ?_, fun A' E' i v s₂ m₂ hA hPv hp hn hm hk => ?_⟩
      · simp only [List.forIn_nil]
        exact wpAny_pure ⟨rfl, keeps_refl _⟩
      · obtain ⟨xi, h1, h2⟩ := hPf i v hPv
        have hlt : i < xs.length := (List.getElem?_eq_some_iff.mp h1).1
        have nw : ∀ b u, s1.heap.get? b = some u → b ∉ [s1.heap.objs.size] := fun b u e hb => by
          have hl := Heap.lt_size e
          have z : b = s1.heap.objs.size := by simpa using hb
          rw [z] at hl
          exact Nat.lt_irrefl _ hl
        have up : ∀ b u, b ≠ P → s1.heap.get? b = some u → s₂.heap.get? b = some u := fun b u hb e => by
          have l1 : b < h3.objs.size := by
            exact Nat.lt_trans (Heap.lt_size e) hs3
          exact hk b (List.mem_range.mpr l1) (nw b u e) u (hhref b u (keep3 b u hb e))
        have nPb : ∀ b u, X.base.get? b = some u → b ≠ P := fun b u e z => by
          have q := (I1.bs b u e).2
          rw [z, hP] at q
          cases q
        refine hel σ H1 [xi] (f i) (hf i xi h1) _ A' E' s₂ hA ?_ ?_ _ fun u s' ru ku => ⟨⟨hlt, ru⟩, ku⟩
        · rfl
        refine ⟨I1.ok, S.kind, I1.ok.glob, fun y hy => ?_, ⟨m₂, hn, fun j y v' e1 e2 => ?_⟩, fun j y u e1 e2 e3 => ?_, ⟨ps, hP⟩, ⟨pins, s1, I1, up⟩⟩
        · rcases List.mem_cons.mp hy with z | hy
          · rw [z]; exact S.loc
          cases hy
        · match j with
          | 0 => cases e1; cases e2; exact ⟨v, hm, h2⟩
          | j + 1 => cases e1
        · obtain ⟨m, hm1, hl⟩ := I1.loc
          have e3' : scope.names.lookup y = some .free := e3
          have hv := hvis y e3'
          obtain ⟨w, rw', lk⟩ := hl j y u e1 e2 (by rcases hv with z | z; exact Or.inr (Or.inl z); exact Or.inr (Or.inr z))
          obtain ⟨cc, hc1, oc, hc2, hc3⟩ : ∃ cc, X.env.cells.lookup y = some cc ∧ s1.heap.IsCell cc (some w) := by
            rcases lk with ⟨z, _⟩ | ⟨_, z⟩
            · have z' : X.env.scope.names.lookup y = some .local := z
              rcases hv with q | q <;> rw [q] at z' <;> cases z'
            · exact z
          have ncP : cc ≠ P := fun z => by
            rw [z, hPs] at hc2
            cases hc2
            cases hc3
          obtain ⟨c2, hc4⟩ := mem_lookup (cloFrom_has (cells := X.env.cells) (acc := []) (PySem.mem_of_lookup e3'))
          refine ⟨c2, w, hc4, ?_, rw'⟩
          have hc5 := PySem.mem_of_lookup hc4
          rcases cloFrom_mem hc5 with z | ⟨_, z⟩
          · cases z
          · have : c2 = cc := by rw [z, hc1]; rfl
            rw [this]
            exact ⟨oc, up cc oc ncP hc2, hc3⟩
    · intro g h5 tk5 gs hgb hag hsz5 hk5 W5 hat
      simp only [GxR.passing_true, List.length_range] at W5
      refine hQ xs H1 f g _ q1 ⟨_, _, _, _, _, W5, hat, ?_, List.mem_cons_self, fun i s9 h9 => ?_, ?_, fun s' hm => ?_⟩
      · intro b hb
        show b < h5.objs.size
        have e5 : h5.objs.size = g + 1 := hsz5
        have h8 : h3.objs.size < g := hag
        rw [e5]
        rcases List.mem_cons.mp hb with z | z
        · rw [z]
          exact Nat.lt_succ_self g
        · rcases List.mem_cons.mp z with z | z
          · rw [z]
            exact Nat.lt_succ_of_lt h8
          · have z2 := List.mem_range.mp z
            have h7 : b < h3.objs.size := z2
            exact Nat.lt_succ_of_lt (Nat.lt_trans h7 h8)
      · obtain ⟨hg9, _⟩ := h9
        exact hg9.typeIs
      · intro j y hy
        obtain ⟨i, hij, h1, h2⟩ := hy
        obtain ⟨hj, ej⟩ := List.getElem?_eq_some_iff.mp hij
        rw [List.getElem_range] at ej
        subst ej
        exact ⟨h1, h2⟩
      · obtain ⟨more, em⟩ := hmore
        have nwr : ∀ b u, s1.heap.get? b = some u → b ∉ h3.objs.size :: [s1.heap.objs.size] := fun b u e hb => by
          have hl := Heap.lt_size e
          rcases List.mem_cons.mp hb with z | z
          · rw [z] at hl
            have h9 : (h3.objs.size : Nat) < s1.heap.objs.size := hl
            omega
          · rcases List.mem_cons.mp z with z | z
            · rw [z] at hl
              exact Nat.lt_irrefl _ hl
            · cases z
        have J := inv_tab (more := more) (h' := s'.heap) (g' := s'.gens) (d' := s'.drawn) (t' := s'.toks) I1 hP (fun b u hb e => hm.heap b u (nwr b u e) (hk5 b u (keep3 b u hb e)))
          (by rw [← em]; exact hm.heap P _ (nwr P _ hPs) (hk5 P _ hP3)) (AllBare.movedS (I1.bare.push hgb) hm)
        rw [sh_eta s1 s' hm.os] at J
        refine ⟨upd H1 P (.tbl (ps ++ more)), ⟨⟨ps ++ more, upd_same, by rw [← em]; exact ht3⟩, fun b hb => upd_ne hb⟩, J⟩
  refine ⟨lim2, ?_⟩
  cases hf : codeAmong gpos ps.toList with
  | none =>
    refine wpAny_genexprCodeX hcode (cd.code hP2 ht) (cd.tab hP2) hf fun c' h' tk hx hge hlt hco' _ htab' _ => ?_
    obtain ⟨o1, vs, f1, tf, fl, tg, inF, tx, tt, op, _, _, _, _, _, _, _, _, _, htr, _⟩ := hco'
    exact cont _ h' tk _ hx (Nat.le_trans hge (Nat.le_of_lt hlt)) htab'.2 ⟨_, rfl⟩ htr
  | some cv =>
    refine wpAny_genexprCode_hit hcode (cd.code hP2 ht) hf ?_
    exact cont cv (s1.heap.push o) s1.toks ps (Heap.ExtBut.refl _ _) (Nat.le_refl _) hP2 ⟨#[], by simp⟩ ht
/-- any(..) of tests -/
def tGAny (P : Addr) (iw : V → Hp → List V → Prop) (el : ER) (te : TE) : TE := fun σ H Q => te σ H fun v H1 => ∃ xs, iw v H1 xs ∧ TabG H1 P ∧ ∃ f : Nat → V, (∀ (i : Nat) x, xs[i]? = some x → el σ H1 [x] (f i)) ∧
  ∃ b : Nat → Bool, (∀ i, i < xs.length → f i = .bl (b i)) ∧ ∀ H2, Tabbed P H1 H2 → Q (.bl ((List.range xs.length).any b)) H2
theorem pe_anyGen {c P : Addr} {elt iter : Expr} {x : Str} {px p pos gpos : Pos} {scope : Scope} {el : ER} {te : TE} {iw : V → Hp → List V → Prop} {k : Nat}
    (hr : Room k X.A) (hg : Gl X "any") (hm : X.mg "any" = none) (TB : TabB X.base X.mg c P) (hcode : X.env.code = .ref c) (S : GX.GS X.env.scope scope x) (hi : PE X iter te) (hiw : GX.IW X iw) (hel : GP X P [x] scope elt el)
    (hs : ∀ v, genFold iter X.env v = pure v)
    (he : starEach [.GeneratorExp elt [⟨.Name x px, iter, [], 0⟩] scope gpos] X.env = (false, eval (.GeneratorExp elt [⟨.Name x px, iter, [], 0⟩] scope gpos) X.env) :: starEach [] X.env := by rfl) :
    PE X (.Call (.Name "any" p) [.GeneratorExp elt [⟨.Name x px, iter, [], 0⟩] scope gpos] [] pos) (tGAny P iw el te) := by
  refine ⟨fun pins s σ H Q I h => ?_⟩
  refine wpAny_Call_Name_kw (ld_blt I hg hm boot_any ?_)
  refine PyProof.Rows.callWith_builtin1 ?_ he (by rfl)
  rw [he]
  show wpAny _ _ (spliced ((false, eval (.GeneratorExp elt [⟨.Name x px, iter, [], 0⟩] scope gpos) X.env) :: backTo pos (starEach [] X.env))) _ _ s
  refine Calls.spliced_cons (gen_any (R := fun xs H1 f => ∃ b : Nat → Bool, (∀ i, i < xs.length → f i = .bl (b i)) ∧ ∀ H2, Tabbed P H1 H2 → Q (.bl ((List.range xs.length).any b)) H2) hr TB hcode (S.gen I.ok) hi hiw hel hs S.vis I h fun xs H1 f g s5 hR hG => ?_)
  obtain ⟨fp, wr, G, F, St, W, hst, _, _, _, hF, hI⟩ := hG
  obtain ⟨b, hb, hR⟩ := hR
  refine Calls.spliced_nil ?_
  refine call_any_walkS (W.in4_1.self 0 _ _ _ hst ⟨g, fp, wr, G, _, F, St, b, rfl, W.in4_1, hst, ?_, fun s' hmv => ?_⟩)
  · intro j y sj Qj Ej hy hQj
    obtain ⟨h1, h2⟩ := hF j y hy
    rw [hb j h1] at h2
    cases h2
    exact wpAny_truthy_bool hQj
  · obtain ⟨H2, hT, J⟩ := hI s' hmv
    exact ⟨.bl _, H2, J, rfl, hR H2 hT⟩
/-- tuple(..) -/
def tGTup (P : Addr) (iw : V → Hp → List V → Prop) (el : ER) (te : TE) : TE := fun σ H Q => te σ H fun v H1 => ∃ xs, iw v H1 xs ∧ TabG H1 P ∧ ∃ f : Nat → V, (∀ (i : Nat) x, xs[i]? = some x → el σ H1 [x] (f i)) ∧
  xs.length ≤ 100000 ∧ ∀ H2, Tabbed P H1 H2 → ∀ (p : Addr) (o : Obj), H2 p = none → o.dict = none → Q (.ref p) (upd H2 p (.frz o (.tup ((List.range xs.length).map f))))
theorem pe_tupGen {c P : Addr} {elt iter : Expr} {x : Str} {px p pos gpos : Pos} {scope : Scope} {el : ER} {te : TE} {iw : V → Hp → List V → Prop} {k : Nat}
    (hr : Room k X.A) (hg : Gl X "tuple") (hm : X.mg "tuple" = none) (TB : TabB X.base X.mg c P) (hcode : X.env.code = .ref c) (S : GX.GS X.env.scope scope x) (hi : PE X iter te) (hiw : GX.IW X iw) (hel : GP X P [x] scope elt el)
    (hs : ∀ v, genFold iter X.env v = pure v)
    (he : starEach [.GeneratorExp elt [⟨.Name x px, iter, [], 0⟩] scope gpos] X.env = (false, eval (.GeneratorExp elt [⟨.Name x px, iter, [], 0⟩] scope gpos) X.env) :: starEach [] X.env := by rfl) :
    PE X (.Call (.Name "tuple" p) [.GeneratorExp elt [⟨.Name x px, iter, [], 0⟩] scope gpos] [] pos) (tGTup P iw el te) := by
  refine ⟨fun pins s σ H Q I h => ?_⟩
  refine Call_ (ld_blt I hg hm boot_tuple (PyProof.Rows.callWith_type1 (args_cons (gen_any (R := fun xs H1 f => xs.length ≤ 100000 ∧ ∀ H2, Tabbed P H1 H2 → ∀ (p : Addr) (o : Obj), H2 p = none → o.dict = none → Q (.ref p) (upd H2 p (.frz o (.tup ((List.range xs.length).map f))))) hr TB hcode (S.gen I.ok) hi hiw hel hs S.vis I h fun xs H1 f g s5 hR hG => args_nil ?_) he) he))
  obtain ⟨fp, wr, G, F, St, W, hst, hfp, hgf, hT, hF, hI⟩ := hG
  obtain ⟨hz, hR⟩ := hR
  refine call_tuple_gen (hsz := Evl.sz_of hz) W.in4_3 hT hst hfp hgf fun s' acc hm hacc => ?_
  obtain ⟨H2, hTb, J⟩ := hI s' hm
  have hpn : H2 s'.heap.objs.size = none := J.hok.fresh (Nat.le_refl _)
  have hv : Vals ((List.range xs.length).map f) acc.toList := by
    refine vals_of_at (by simp [hacc.1]) fun j y u h1 h2 => ?_
    have h3 : acc[j]? = some u := by simpa using h2
    have h4 := hF j u (hacc.2 j u h3)
    rw [List.getElem?_map, List.getElem?_eq_getElem (by simpa using h4.1)] at h1
    simp at h1
    rw [← h1]
    exact h4.2
  refine ⟨.ref s'.heap.objs.size, upd H2 s'.heap.objs.size (.frz { cls := .type "tuple", data := .seq acc } (.tup ((List.range xs.length).map f))), J.laid (t' := s'.toks) (fun c o e => Heap.get?_push_of_some _ e) (Nat.le_refl _) ?_, rfl, hR H2 hTb _ _ hpn rfl⟩
  refine ⟨Heap.get?_push_size _ rfl, Evl.sz_of (by simpa using hz), acc.toList, hv, ?_⟩
  rw [Array.toArray_toList]
  exact IsTup.new _ _
/-- any(.. for xa, xb in zip(a, b)), two tuples -/
def tGAnyZ (K : PySem.W.Frag) (P : Addr) (el : ER) (ta : TA) : TE := fun σ H Q => ta σ H fun vs H1 => ∃ a b xs ys, vs = [.ref a, .ref b] ∧ SqT K H1 a xs ∧ SqT K H1 b ys ∧ TabG H1 P ∧ ∃ f : Nat → V, (∀ (i : Nat) x y, xs[i]? = some x → ys[i]? = some y → el σ H1 [x, y] (f i)) ∧
  ∃ bb : Nat → Bool, (∀ i, i < min xs.length ys.length → f i = .bl (bb i)) ∧ ∀ H2, Tabbed P H1 H2 → Q (.bl ((List.range (min xs.length ys.length)).any bb)) H2
theorem pe_anyZip {c P : Addr} {elt e1 e2 : Expr} {xa xb : Str} {pa pb pt p p2 pos zpos gpos : Pos} {kt : Nat} {scope : Scope} {el : ER} {ta : TA} {k : Nat}
    (hr : Room k X.A) (hg : Gl X "any") (hm : X.mg "any" = none) (TB : TabB X.base X.mg c P) (hcode : X.env.code = .ref c) (S : GX.GS X.env.scope scope xa) (Sb : scope.names.lookup xb = some .local) (hab : xa ≠ xb) (hgz : Gl X "zip") (hmz : X.mg "zip" = none) (ha : PA X [e1, e2] ta) (hel : GP X P [xa, xb] scope elt el)
    (hs : ∀ v, genFold (.Call (.Name "zip" p2) [e1, e2] [] zpos) X.env v = pure v)
    (he : starEach [.GeneratorExp elt [⟨.Tuple [.Name xa pa, .Name xb pb] kt pt, .Call (.Name "zip" p2) [e1, e2] [] zpos, [], 0⟩] scope gpos] X.env = (false, eval (.GeneratorExp elt [⟨.Tuple [.Name xa pa, .Name xb pb] kt pt, .Call (.Name "zip" p2) [e1, e2] [] zpos, [], 0⟩] scope gpos) X.env) :: starEach [] X.env := by rfl)
    (hss : starEach [e1, e2] X.env = (false, eval e1 X.env) :: starEach [e2] X.env := by rfl) (hpl : (backTo zpos (starEach [e2] X.env)).any (·.1) = false := by rfl) :
    PE X (.Call (.Name "any" p) [.GeneratorExp elt [⟨.Tuple [.Name xa pa, .Name xb pb] kt pt, .Call (.Name "zip" p2) [e1, e2] [] zpos, [], 0⟩] scope gpos] [] pos) (tGAnyZ X.K P el ta) := by
  refine ⟨fun pins s σ H Q I h => ?_⟩
  refine wpAny_Call_Name_kw (ld_blt I hg hm boot_any ?_)
  refine PyProof.Rows.callWith_builtin1 ?_ he (by rfl)
  rw [he]
  show wpAny _ _ (spliced ((false, eval (.GeneratorExp elt [⟨.Tuple [.Name xa pa, .Name xb pb] kt pt, .Call (.Name "zip" p2) [e1, e2] [] zpos, [], 0⟩] scope gpos) X.env) :: backTo pos (starEach [] X.env))) _ _ s
  refine Calls.spliced_cons (gen_zip (R := fun xs ys H1 f => ∃ b : Nat → Bool, (∀ i, i < min xs.length ys.length → f i = .bl (b i)) ∧ ∀ H2, Tabbed P H1 H2 → Q (.bl ((List.range (min xs.length ys.length)).any b)) H2) hr TB hcode (S.gen I.ok) Sb hab hgz hmz ha hel hs S.vis I h (fun xs ys H1 f g s5 hR hG => ?_) hss hpl)
  obtain ⟨fp, wr, G, F, St, W, hst, _, _, _, hF, hI⟩ := hG
  obtain ⟨b, hb, hR⟩ := hR
  refine Calls.spliced_nil ?_
  refine call_any_walkS (W.in4_1.self 0 _ _ _ hst ⟨g, fp, wr, G, _, F, St, b, rfl, W.in4_1, hst, ?_, fun s' hmv => ?_⟩)
  · intro j y sj Qj Ej hy hQj
    obtain ⟨h1, h2⟩ := hF j y hy
    rw [hb j h1] at h2
    cases h2
    exact wpAny_truthy_bool hQj
  · obtain ⟨H2, hT, J⟩ := hI s' hmv
    exact ⟨.bl _, H2, J, rfl, hR H2 hT⟩
end
end GY
namespace DY
open PySem PySem.Spec PyProof.Rows L2 GY GxR DL
section
variable {T : Tb} {K : PySem.W.Frag} {E : XK} {g g' : G} {r r' r1 r2 r3 : Rs} {ta tb tc te : TE} {t : TT} {x y z d : D} {ds es xs : List D} {tas : TA} {O O' : Out} {s1 s2 ts tu : TS} {i j k : Nat} {tg : TG} {P : Addr}
/-! ### elements over several items -/
def ElY (T : Tb) (K : PySem.W.Frag) (el : ER) (g : G) (r : Rs) (xs : List D) (v : D) : Prop := ∀ (rf : Rs) (Hs H : Hp) (σ : L2.St), SR T K Hs H σ g (r ++ rf) → ∀ us, DRs K Hs us xs → ∃ w, DR K Hs w v ∧ el σ H us w
theorem ey_item (i : Nat) (h : xs[i]? = some x) : ElY T K (elItem i) g r xs x := fun rf Hs H σ s us ru => by
  obtain ⟨v, h1, h2⟩ := ru.get h
  exact ⟨v, h2, h1⟩
theorem ey_var (h : g[i]? = some (some d)) : ElY T K (elVar i) g r xs d := fun rf Hs H σ s u ru => by
  obtain ⟨v, h1, h2⟩ := s.sl i _ h
  exact ⟨v, h2, h1⟩
theorem ey_int {n : Int} : ElY T K (elC (.int n)) g r xs (.int n) := fun rf Hs H σ s u ru => ⟨_, .int n, rfl⟩
theorem ey_bin {C : Int → Int → Prop} {h : Int → Int → Int} {a b : ER} {m n : Int} (ha : ElY T K a g r xs (.int m)) (hb : ElY T K b g r xs (.int n)) (hc : C m n) : ElY T K (elI C h a b) g r xs (.int (h m n)) := fun rf Hs H σ s u ru => by
  obtain ⟨v, h1, h2⟩ := ha rf Hs H σ s u ru
  obtain ⟨w, h3, h4⟩ := hb rf Hs H σ s u ru
  cases h1
  cases h3
  exact ⟨_, .int _, m, n, h2, h4, hc, rfl⟩
theorem ey_cmp {h : Int → Int → Bool} {a b : ER} {m n : Int} (ha : ElY T K a g r xs (.int m)) (hb : ElY T K b g r xs (.int n)) : ElY T K (elB h a b) g r xs (.bl (h m n)) := fun rf Hs H σ s u ru => by
  obtain ⟨v, h1, h2⟩ := ha rf Hs H σ s u ru
  obtain ⟨w, h3, h4⟩ := hb rf Hs H σ s u ru
  cases h1
  cases h3
  exact ⟨_, .bl _, m, n, h2, h4, rfl⟩
theorem ey_chain {h h' : Int → Int → Bool} {a b c : ER} {m n k : Int} (ha : ElY T K a g r xs (.int m)) (hb : ElY T K b g r xs (.int n)) (hc : ElY T K c g r xs (.int k)) : ElY T K (elChain h h' a b c) g r xs (.bl (h m n && h' n k)) := fun rf Hs H σ s u ru => by
  obtain ⟨v, h1, h2⟩ := ha rf Hs H σ s u ru
  obtain ⟨w, h3, h4⟩ := hb rf Hs H σ s u ru
  obtain ⟨q, h5, h6⟩ := hc rf Hs H σ s u ru
  cases h1
  cases h3
  cases h5
  exact ⟨_, .bl _, m, n, k, h2, h4, h6, rfl⟩
theorem ey_not {a : ER} {b : Bool} (ha : ElY T K a g r xs (.bl b)) : ElY T K (elNot a) g r xs (.bl (!b)) := fun rf Hs H σ s u ru => by
  obtain ⟨v, h1, h2⟩ := ha rf Hs H σ s u ru
  cases h1
  exact ⟨_, .bl _, b, h2, rfl⟩
theorem ey_or {a b : ER} {c d : Bool} (ha : ElY T K a g r xs (.bl c)) (hb : c = false → ElY T K b g r xs (.bl d)) : ElY T K (elOr a b) g r xs (.bl (c || d)) := fun rf Hs H σ s u ru => by
  obtain ⟨v, h1, h2⟩ := ha rf Hs H σ s u ru
  cases h1
  refine ⟨_, .bl _, c, d, h2, fun e => ?_, rfl⟩
  obtain ⟨w, h3, h4⟩ := hb e rf Hs H σ s u ru
  cases h3
  exact h4
theorem ey_ixT {a b : ER} {n : Int} (ha : ElY T K a g r xs (.tup ds)) (hb : ElY T K b g r xs (.int n)) (h : atI ds n = some d) : ElY T K (elIxT K a b) g r xs d := fun rf Hs H σ s u ru => by
  obtain ⟨v, h1, h2⟩ := ha rf Hs H σ s u ru
  obtain ⟨w, h3, h4⟩ := hb rf Hs H σ s u ru
  obtain ⟨p, xs, rfl, h5, h6⟩ := h1.tupI
  cases h3
  obtain ⟨z, h7, h8⟩ := h6.at h
  exact ⟨z, h8, p, xs, n, h2, h4, s.ex.st h5, h7⟩
/-- the elements, one name -/
theorem ey_all {el : ER} {Hs H : Hp} {rf : Rs} {σ : L2.St} {xs : List V} {fd : D → D} (s : SR T K Hs H σ g (r ++ rf)) (hx : DRs K Hs xs ds) (h : ∀ d ∈ ds, ElY T K el g r [d] (fd d)) :
    ∃ f : Nat → V, (∀ (i : Nat) x, xs[i]? = some x → el σ H [x] (f i)) ∧ DRs K Hs ((List.range xs.length).map f) (ds.map fd) ∧ ∀ (i : Nat) d, ds[i]? = some d → DR K Hs (f i) (fd d) :=
  el_all (el := fun σ H x v => el σ H [x] v) s hx fun d hd rf' Hs' H' σ' s' u ru => h d hd rf' Hs' H' σ' s' [u] (.cons ru .nil)
theorem ev_anyY {iw : V → Hp → List V → Prop} {el : ER} {b : D → Bool} (hP : P ∈ T.gs) (h : Ev T K te g r x r1) (hw : IwD T K iw x g r1 ds) (he : ∀ d ∈ ds, ElY T K el g r1 [d] (.bl (b d))) : Ev T K (tGAny P iw el te) g r (.bl (ds.any b)) r1 := fun rf Hs H σ s Q q =>
  h rf Hs H σ s _ fun v Hs1 H1 e1 s1 rv => by
    obtain ⟨xs, h1, h2⟩ := hw rf Hs1 H1 σ v s1 rv
    obtain ⟨f, f1, f2, f3⟩ := ey_all (fd := fun d => .bl (b d)) s1 h2 he
    have hl := h2.length
    refine ⟨xs, h1, s1.wfH.g P hP, f, f1, fun i => match ds[i]? with | some d => b d | none => false, fun i hi => ?_, fun H2 hT => ?_⟩
    · have hd : i < ds.length := by omega
      have := f3 i _ (List.getElem?_eq_getElem hd)
      show f i = V.bl (match ds[i]? with | some d => b d | none => false)
      rw [List.getElem?_eq_getElem hd]
      generalize f i = w at this
      cases this
      rfl
    · rw [hl, any_range (c := b) (fun i d e => by rw [e])]
      exact q _ Hs1 H2 e1 (s1.tabbed hP hT) (.bl _)
theorem ev_tupY {iw : V → Hp → List V → Prop} {el : ER} {fd : D → D} (hP : P ∈ T.gs) (h : Ev T K te g r x r1) (hw : IwD T K iw x g r1 ds) (he : ∀ d ∈ ds, ElY T K el g r1 [d] (fd d)) (hz : ds.length ≤ 100000) : Ev T K (tGTup P iw el te) g r (.tux (ds.map fd)) r1 := fun rf Hs H σ s Q q =>
  h rf Hs H σ s _ fun v Hs1 H1 e1 s1 rv => by
    obtain ⟨xs, h1, h2⟩ := hw rf Hs1 H1 σ v s1 rv
    obtain ⟨f, f1, f2, f3⟩ := ey_all (fd := fd) s1 h2 he
    have hl := h2.length
    refine ⟨xs, h1, s1.wfH.g P hP, f, f1, by omega, fun H2 hT p o hp ho => ?_⟩
    obtain ⟨s3, e3⟩ := (s1.tabbed hP hT).alloc (o := .frz o (.tup ((List.range xs.length).map f))) hp True.intro
    exact q _ _ _ (e1.trans e3) s3 (.tux upd_same ho (DRs.mono e3 _ f2))
/-- two names over zip of two tuples -/
theorem ev_anyZ {el : ER} {b : D → D → Bool} (hP : P ∈ T.gs) (h : EvA T K tas g r [.tup ds, .tup es] r1) (he : ∀ p ∈ ds.zip es, ElY T K el g r1 [p.1, p.2] (.bl (b p.1 p.2))) : Ev T K (tGAnyZ K P el tas) g r (.bl ((ds.zip es).any fun p => b p.1 p.2)) r1 := fun rf Hs H σ s Q q =>
  h rf Hs H σ s _ fun vs Hs1 H1 e1 s1 rvs => by
    obtain ⟨v, w, rfl, rv, rw'⟩ := rvs.two
    obtain ⟨a, xs, rfl, ha, hx⟩ := rv.tupI
    obtain ⟨b', ys, rfl, hb, hy⟩ := rw'.tupI
    have hlx := hx.length
    have hly := hy.length
    have h1 : ∀ i : Nat, ∃ w : V, ∀ x y d e, xs[i]? = some x → ys[i]? = some y → ds[i]? = some d → es[i]? = some e → el σ H1 [x, y] w ∧ DR K Hs1 w (.bl (b d e)) := by
      intro i
      cases hi : ds[i]? with
      | none => exact ⟨.non, fun x y d e _ _ z => by cases z⟩
      | some d =>
        cases hj : es[i]? with
        | none => exact ⟨.non, fun x y d e _ _ _ z => by cases z⟩
        | some e =>
          obtain ⟨x, h2, h3⟩ := hx.get hi
          obtain ⟨y, h4, h5⟩ := hy.get hj
          have hm : (d, e) ∈ ds.zip es := by
            refine List.mem_of_getElem? (i := i) ?_
            rw [List.getElem?_zip_eq_some]
            exact ⟨hi, hj⟩
          obtain ⟨w, h6, h7⟩ := he (d, e) hm rf Hs1 H1 σ s1 [x, y] (.cons h3 (.cons h5 .nil))
          refine ⟨w, fun x' y' d' e' z1 z2 z3 z4 => ?_⟩
          rw [h2] at z1
          rw [h4] at z2
          cases z1
          cases z2
          cases z3
          cases z4
          exact ⟨h7, h6⟩
    obtain ⟨f, hf⟩ := Classical.skolem.mp h1
    refine ⟨a, b', xs, ys, rfl, s1.ex.st ha, s1.ex.st hb, s1.wfH.g P hP, f, fun i x y ex ey => ?_, fun i => match (ds.zip es)[i]? with | some p => b p.1 p.2 | none => false, fun i hi => ?_, fun H2 hT => ?_⟩
    · obtain ⟨d, d1, d2⟩ := hx.get' ex
      obtain ⟨e, e1, e2⟩ := hy.get' ey
      exact (hf i x y d e ex ey d1 e1).1
    · have i1 : i < ds.length := by omega
      have i2 : i < es.length := by omega
      have j1 : i < xs.length := by omega
      have j2 : i < ys.length := by omega
      have := (hf i _ _ _ _ (List.getElem?_eq_getElem j1) (List.getElem?_eq_getElem j2) (List.getElem?_eq_getElem i1) (List.getElem?_eq_getElem i2)).2
      have ez : (ds.zip es)[i]? = some (ds[i], es[i]) := List.getElem?_zip_eq_some.mpr ⟨List.getElem?_eq_getElem i1, List.getElem?_eq_getElem i2⟩
      show f i = V.bl (match (ds.zip es)[i]? with | some p => b p.1 p.2 | none => false)
      rw [ez]
      generalize f i = w at this
      cases this
      rfl
    · have e : (List.range (min xs.length ys.length)).any (fun i => match (ds.zip es)[i]? with | some p => b p.1 p.2 | none => false) = (ds.zip es).any fun p => b p.1 p.2 := by
        rw [hlx, hly, ← List.length_zip]
        rw [Bool.eq_iff_iff, List.any_eq_true, List.any_eq_true]
        constructor
        · rintro ⟨i, h1, h2⟩
          have hl := List.mem_range.mp h1
          rw [List.getElem?_eq_getElem hl] at h2
          exact ⟨_, List.getElem_mem hl, h2⟩
        · rintro ⟨p, h1, h2⟩
          obtain ⟨i, hi, e⟩ := List.getElem_of_mem h1
          refine ⟨i, List.mem_range.mpr hi, ?_⟩
          rw [List.getElem?_eq_getElem hi, e]
          exact h2
      rw [e]
      exact q _ Hs1 H2 e1 (s1.tabbed hP hT) (.bl _)
theorem ev_tupOfT (h : Ev T K te g r (.tup ds) r1) : Ev T K (tThen te (kTup K)) g r (.tup ds) r1 := fun rf Hs H σ s Q q =>
  h rf Hs H σ s _ fun v Hs1 H1 e1 s1 rv => by
    obtain ⟨p, xs, rfl, h1, h2⟩ := rv.tupI
    exact Or.inr ⟨p, xs, rfl, s1.ex.st h1, q _ _ _ e1 s1 rv⟩
end
end DY
namespace DL
open PySem PySem.Spec PyProof.Rows L2
section
variable {T : Tb} {K : PySem.W.Frag} {E : XK} {g g' g2 : G} {r r' r1 r2 r3 : Rs} {ta tb tc te tl : TE} {t : TT} {x y z d : D} {ds es xs : List D} {tas : TA} {f : R2} {O O' : Out} {s1 s2 ts tu : TS} {i j k : Nat} {tg : TG} {C : Addr} {is : List Nat}
/-- a target that may write to own lists -/
def EvGr (T : Tb) (K : PySem.W.Frag) (tg : TG) (d : D) (g : G) (r : Rs) (g' : G) (r' : Rs) : Prop := ∀ (rf : Rs) (Hs H : Hp) (σ : L2.St) (v : V), SR T K Hs H σ g (r ++ rf) → DR K Hs v d → ∀ Q : L2.St → Hp → Prop,
  (∀ σ' Hs' H', Ext T Hs Hs' → SR T K Hs' H' σ' g' (r' ++ rf) → Q σ' H') → tg v σ H Q
def EvGrs (T : Tb) (K : PySem.W.Frag) (tg : TGs) (ds : List D) (g : G) (r : Rs) (g' : G) (r' : Rs) : Prop := ∀ (rf : Rs) (Hs H : Hp) (σ : L2.St) (vs : List V), SR T K Hs H σ g (r ++ rf) → DRs K Hs vs ds → ∀ Q : L2.St → Hp → Prop,
  (∀ σ' Hs' H', Ext T Hs Hs' → SR T K Hs' H' σ' g' (r' ++ rf) → Q σ' H') → tg vs σ H Q
theorem er_name : EvGr T K (gName i) d g r (g.set i (some d)) r := fun rf Hs H σ v s rv Q q => q _ Hs H (Ext.refl _) (s.set rv i)
theorem ers_nil : EvGrs T K gNil [] g r g r := fun rf Hs H σ vs s rvs Q q => by
  cases rvs
  exact ⟨rfl, q σ Hs H (Ext.refl _) s⟩
theorem ers_cons {tgs : TGs} (h1 : EvGr T K tg d g r g' r1) (h2 : EvGrs T K tgs ds g' r1 g2 r2) : EvGrs T K (gCons tg tgs) (d :: ds) g r g2 r2 := fun rf Hs H σ vs s rvs Q q => by
  cases rvs with
  | cons a b => exact ⟨_, _, rfl, h1 rf Hs H σ _ s a _ fun σ' Hs1 H1 e1 s' => h2 rf Hs1 H1 σ' _ s' (DRs.mono e1 _ b) Q fun σ2 Hs2 H2 e2 s2 => q σ2 Hs2 H2 (e1.trans e2) s2⟩
theorem er_tup {tgs : TGs} {n : Nat} (h : EvGrs T K tgs ds g r g' r') (hn : ds.length = n) : EvGr T K (gTup K n tgs) (.tup ds) g r g' r' := fun rf Hs H σ v s rv Q q => by
  obtain ⟨a, xs, rfl, h1, h2⟩ := rv.tupI
  exact ⟨a, xs, rfl, s.ex.st h1, h2.length.trans hn, h rf Hs H σ xs s h2 Q q⟩
theorem sq_asgR (h : Ev T K te g r d r1) (hg : EvGr T K tg d g r1 g2 r2) (hk : StD T K E ts g2 r2 O) : StD T K E (tSeq (tAsg te tg) ts) g r O := fun rf Hs H σ s En Gd =>
  h rf Hs H σ s _ fun v Hs1 H1 e s' rv => hg rf Hs1 H1 σ v s' rv _ fun σ' Hs2 H2 e2 s2 => hk rf Hs2 H2 σ' s2 En (Gd.ext (e.trans e2))
theorem st_asgR (h : Ev T K te g r d r1) (hg : EvGr T K tg d g r1 g2 r2) (hk : O.nx g2 r2) : StD T K E (tAsg te tg) g r O := fun rf Hs H σ s En Gd =>
  h rf Hs H σ s _ fun v Hs1 H1 e s' rv => hg rf Hs1 H1 σ v s' rv _ fun σ' Hs2 H2 e2 s2 => Gd.nx _ _ _ _ _ hk (e.trans e2) s2
theorem er_setL {p : Addr} (j : Nat) {m : Nat} {n : Int} (h0 : Ev T K ta g r (.ref p) r2) (hi : Ev T K tb g r2 (.int n) r3) (hj : r3[j]? = some (rl p ds)) (hm : ixN ds.length n = some m) : EvGr T K (gSub ta tb rSetL) d g r g (r3.set j (rl p (ds.set m d))) := fun rf Hs1 H1 σ v s1 rv Q q =>
  h0 rf Hs1 H1 σ s1 _ fun u Hs2 H2 e2 s2 ru => hi rf Hs2 H2 σ s2 _ fun w Hs3 H3 e3 s3 rw' => by
    cases ru
    cases rw'
    obtain ⟨ys, q1, q2⟩ := s3.rs _ (List.mem_append_left _ (List.mem_of_getElem? hj))
    exact ⟨p, ys, n, m, rfl, rfl, q1, by rw [q2.length]; exact hm, q σ _ _ (e2.trans e3) (s3.turn hj (q2.set (DR.mono (e2.trans e3) d rv) m))⟩
end
end DL
namespace DL
open PySem PySem.Spec PyProof.Rows L2
section
variable {T : Tb} {K : PySem.W.Frag} {E : XK} {g g' g2 : G} {r r' r1 r2 r3 : Rs} {ta tb tc te tl : TE} {t : TT} {x y z d : D} {ds es xs : List D} {tas : TA} {f : R2} {O O' : Out} {s1 s2 ts tu : TS} {i j k : Nat} {tg : TG} {C : Addr} {is : List Nat}
/-! ### a known tuple is read as a tuple -/
theorem od_wL (h : OpD T K f (.tup ds) y g r d r') : OpD T K f (.tux ds) y g r d r' := fun rf Hs H σ u v s ru rv Q q => h rf Hs H σ u v s ru.weakT rv Q q
theorem od_wR (h : OpD T K f x (.tup ds) g r d r') : OpD T K f x (.tux ds) g r d r' := fun rf Hs H σ u v s ru rv Q q => h rf Hs H σ u v s ru rv.weakT Q q
theorem ca_wk {f : List V → Hp → VK → Prop} (h : CaD T K f [.tup ds] g r d r') : CaD T K f [.tux ds] g r d r' := fun rf Hs H σ us s rus Q q => h rf Hs H σ us s (by
  cases rus with
  | cons a b => exact .cons a.weakT b) Q q
theorem ei_tux (h : Ev T K tl g r (.tux ds) r1) : EvI T K (iTup K tl) g r ds r1 := ei_tup (fun rf Hs H σ s Q q => h rf Hs H σ s Q fun v Hs1 H1 e s1 rv => q v Hs1 H1 e s1 rv.weakT)
/-! ### x if b else y -/
theorem ev_ifD {b : Bool} {d1 d2 : D} (h : EvT T K t g r b r1) (h1 : b = true → Ev T K ta g r1 d1 r2) (h2 : b = false → Ev T K tb g r1 d2 r2) : Ev T K (tIf t ta tb) g r (if b = true then d1 else d2) r2 := by
  refine ev_if h (fun e => ?_) (fun e => ?_)
  · rw [if_pos e]; exact h1 e
  · rw [if_neg (by rw [e]; decide)]; exact h2 e
theorem ev_ifI {b : Bool} {m n : Int} (h : EvT T K t g r b r1) (h1 : b = true → Ev T K ta g r1 (.int m) r2) (h2 : b = false → Ev T K tb g r1 (.int n) r2) : Ev T K (tIf t ta tb) g r (.int (if b = true then m else n)) r2 := by
  refine ev_if h (fun e => ?_) (fun e => ?_)
  · rw [if_pos e]; exact h1 e
  · rw [if_neg (by rw [e]; decide)]; exact h2 e
theorem ev_ifS {b : Bool} {m n : Str} (h : EvT T K t g r b r1) (h1 : b = true → Ev T K ta g r1 (.str m) r2) (h2 : b = false → Ev T K tb g r1 (.str n) r2) : Ev T K (tIf t ta tb) g r (.str (if b = true then m else n)) r2 := by
  refine ev_if h (fun e => ?_) (fun e => ?_)
  · rw [if_pos e]; exact h1 e
  · rw [if_neg (by rw [e]; decide)]; exact h2 e
theorem en_if {b : Bool} {d1 d2 : List D} (h : EvT T K t g r b r1) (h1 : b = true → EvN T K ta g r1 d1 r2) (h2 : b = false → EvN T K tb g r1 d2 r2) : EvN T K (tIf t ta tb) g r (if b = true then d1 else d2) r2 := fun rf Hs H σ s Q q => h rf Hs H σ s _ fun Hs1 H1 e s1 => by
  cases b with
  | true => exact h1 rfl rf Hs1 H1 σ s1 Q fun p Hs2 H2 e2 s2 => q _ _ _ (e.trans e2) s2
  | false => exact h2 rfl rf Hs1 H1 σ s1 Q fun p Hs2 H2 e2 s2 => q _ _ _ (e.trans e2) s2
/-! ### comprehensions over typed items -/
section
variable {α β : Type} {enc : α → D} {as : List α} {ti : TI} {vs : List Nat}
theorem get_enc {i : Nat} {d : D} (h : (as.map enc)[i]? = some d) : ∃ a, as[i]? = some a ∧ a ∈ as ∧ d = enc a := by
  rw [List.getElem?_map] at h
  cases q : as[i]? with
  | none => rw [q] at h; cases h
  | some a =>
    rw [q] at h
    cases h
    exact ⟨a, rfl, List.mem_of_getElem? q, rfl⟩
theorem en_lcT (enc2 : β → D) {b : α → Bool} {fe : α → β} (h : EvI T K ti g r (as.map enc) r1) (hl : as.length ≤ 100000)
    (hs : ∀ a, a ∈ as → ∃ g2 is, EvG T K tg is (enc a) (wipeG g vs) g2 ∧ (∀ i ∈ is, i ∈ vs) ∧ EvT T K t g2 r1 (b a) r1 ∧ (b a = true → Ev T K te g2 r1 (enc2 (fe a)) r1)) : EvN T K (tLc ti tg t te vs) g r (((as.filter b).map fe).map enc2) r1 := by
  refine en_lc h (fun i acc r' => acc = (((as.take i).filter b).map fe).map enc2 ∧ r' = r1) ⟨rfl, rfl⟩ (by rw [List.length_map]; exact hl) ?_ ?_
  · rintro i d acc r' hd ⟨rfl, rfl⟩
    obtain ⟨a, h0, hm, rfl⟩ := get_enc hd
    obtain ⟨g2, is, h1, h2, h3, h4⟩ := hs a hm
    have e : as.take (i + 1) = as.take i ++ [a] := by
      rw [List.take_succ, h0]
      rfl
    refine ⟨g2, is, h1, h2, b a, r', h3, fun hb => ⟨enc2 (fe a), r', h4 hb, ?_, rfl⟩, fun hb => ⟨?_, rfl⟩⟩
    · rw [e, List.filter_append, List.map_append, List.map_append]
      simp [hb]
    · rw [e, List.filter_append, List.map_append, List.map_append]
      simp [hb]
  · rintro acc r' ⟨rfl, rfl⟩
    rw [List.length_map, List.take_length]
    exact ⟨rfl, rfl⟩
theorem en_lcMT (enc2 : β → D) {fe : α → β} (h : EvI T K ti g r (as.map enc) r1) (hl : as.length ≤ 100000)
    (hs : ∀ a, a ∈ as → ∃ g2 is, EvG T K tg is (enc a) (wipeG g vs) g2 ∧ (∀ i ∈ is, i ∈ vs) ∧ Ev T K te g2 r1 (enc2 (fe a)) r1) : EvN T K (tLc ti tg tYes te vs) g r ((as.map fe).map enc2) r1 := by
  have q := en_lcT (t := tYes) (te := te) (tg := tg) (vs := vs) enc2 (b := fun _ => true) (fe := fe) h hl fun a ha => by
    obtain ⟨g2, is, h1, h2, h3⟩ := hs a ha
    exact ⟨g2, is, h1, h2, et_yes, fun _ => h3⟩
  rw [List.filter_eq_self.mpr (fun _ _ => rfl)] at q
  exact q
/-- a loop over typed items -/
theorem st_forT (h : EvI T K ti g r (as.map enc) r1) (I : Nat → G → Rs → Prop) (h0 : I 0 g r1)
    (hs : ∀ (i : Nat) a g' r', as[i]? = some a → a ∈ as → I i g' r' → ∃ g2 is, EvG T K tg is (enc a) g' g2 ∧ StD T K E tu g2 r' { O with nx := I (i + 1), ct := I (i + 1), bk := O.nx }) (hd : ∀ g' r', I as.length g' r' → O.nx g' r') :
    StD T K E (tFor ti tg tu) g r O := by
  refine st_for h I h0 (fun i d g' r' hd hI => ?_) (fun g' r' hI => hd g' r' (by rw [List.length_map] at hI; exact hI))
  obtain ⟨a, h1, h2, rfl⟩ := get_enc hd
  exact hs i a g' r' h1 h2 hI
end
/-- items of a tuple, of a list -/
theorem ei_T {α : Type} {enc : α → D} {as : List α} {tl : TE} (h : Ev T K tl g r (.tup (as.map enc)) r1) : EvI T K (iTup K tl) g r (as.map enc) r1 := ei_tup h
theorem ei_L {α : Type} {enc : α → D} {as : List α} {tl : TE} (h : Ev T K tl g r (.lst (as.map enc)) r1) : EvI T K (iList K tl) g r (as.map enc) r1 := ei_lst h
end
end DL
namespace DL
open PySem PySem.Spec PyProof.Rows L2
section
variable {T : Tb} {K : PySem.W.Frag} {g : G} {r : Rs} {x : D}
theorem atI_enc {α : Type} {enc : α → D} {as : List α} {a : α} {i : Int} (h0 : 0 ≤ i) (h : as[i.toNat]? = some a) : atI (as.map enc) i = some (enc a) := atI_of h0 (by rw [List.getElem?_map, h]; rfl)
theorem od_ixLE {α : Type} {enc : α → D} {as : List α} {a : α} {i : Int} (v : Vl x r (as.map enc)) (h0 : 0 ≤ i) (h : as[i.toNat]? = some a) : OpD T K (rIxL K) x (.int i) g r (enc a) r := od_ixL v (atI_enc h0 h)
theorem od_ixTE {α : Type} {enc : α → D} {as : List α} {a : α} {i : Int} (h0 : 0 ≤ i) (h : as[i.toNat]? = some a) : OpD T K (rIxT K) (.tup (as.map enc)) (.int i) g r (enc a) r := od_ixT (atI_enc h0 h)
end
end DL
/-! sorting of alike data, also where some tuples are empty -/
namespace SrtD
open PySem PySem.W PySem.SeqAt PySem.Calls PyProof.Rows Srt SrtO
section
variable {prog : Program} {w : World} {A : Around} {E : Value → Shared → Prop} {s : Shared}
theorem swo_data {α : Type} (k : α → PyData) : Swo fun v u => dataLt (k v) (k u) := by
  refine ⟨fun x y h => ?_, fun x y z h1 h2 => ?_⟩
  · have h' : (listOrd itemOrd).blt (keyToks (k x)) (keyToks (k y)) = true := h
    show (listOrd itemOrd).blt (keyToks (k y)) (keyToks (k x)) = false
    cases q : (listOrd itemOrd).blt (keyToks (k y)) (keyToks (k x)) with
    | false => rfl
    | true =>
      have := (listOrd itemOrd).trans _ _ _ h' q
      rw [(listOrd itemOrd).irrefl] at this
      cases this
  · have h1' : (listOrd itemOrd).blt (keyToks (k y)) (keyToks (k x)) = false := h1
    have h2' : (listOrd itemOrd).blt (keyToks (k z)) (keyToks (k y)) = false := h2
    show (listOrd itemOrd).blt (keyToks (k z)) (keyToks (k x)) = false
    cases q : (listOrd itemOrd).blt (keyToks (k z)) (keyToks (k x)) with
    | false => rfl
    | true =>
      rcases (listOrd itemOrd).negTrans _ (keyToks (k y)) _ q with h | h
      · rw [h2'] at h; cases h
      · rw [h1'] at h; cases h
/-- two tuples, asked by tuple.__lt__ itself -/
theorem oneLt_tups {xs ys : List PyData} {a b : Value} {as bs : List Addr} {Q : Bool → Shared → Prop} (ra : Reads s.heap a (.tuple xs) as) (rb : Reads s.heap b (.tuple ys) bs) (h : alike (.tuple xs) (.tuple ys) = true)
    (hu : A.units + min (PyData.tuple xs).depth (PyData.tuple ys).depth < cLine) (hq : Q (dataLt (.tuple xs) (.tuple ys)) s) : wpAny (model prog w) A (oneLt' true a b) Q E s := by
  have hal : alikeAll xs ys = true := by simpa [alike] using h
  cases ra with
  | @tuple l o vs n _ _ h1 h2 h3 h4 =>
    cases rb with
    | @tuple l' o' vs' n' _ _ k1 k2 k3 k4 =>
      have n1 : vs.size = xs.length := by simpa using ReadsAll.length _ _ _ h4
      have n2 : vs'.size = ys.length := by simpa using ReadsAll.length _ _ _ k4
      rw [dataLt_tuple, ← firstLt_toks xs ys hal, ← n1, ← n2] at hq
      rw [oneLt'_eq]
      simp only [if_true]
      refine wpAny_bind (wpAny_cRoomFor (room_here hu) ?_)
      obtain ⟨cls, dd, data, sl⟩ := o
      obtain ⟨cls2, dd2, data2, sl2⟩ := o'
      simp only at h2 h3 k2 k3
      subst h2 h3 k2 k3
      refine wpAny_bind (wpAny_callSpecialIfBound?_slot (T := "tuple") ⟨_, h1, rfl⟩ F.slot_tuple_lt (call_meets F.slot_tuple_lt ⟨_, h1, rfl⟩ F.entry_tuple_lt (F.args_tuple_lt_2 _ _)
        (PySem.SeqAt.tuple_ltAt l l' vs vs' n n' dd dd2 sl sl2 (pairEq xs ys) (fun j => dataLt (xs.getD j .none) (ys.getD j .none))) ⟨h1, k1, fun j j1 j2 => ?_, fun j j1 j2 hj => ?_, ?_⟩))
      · have := eqAt_alikeAll xs ys A.in1 s vs.toList vs'.toList _ _ h4 k4 hal (room_in hu) j (by simpa using j1) (by simpa using j2)
        simpa using this
      · have := rcLt_alikeAll xs ys A.in1 s vs.toList vs'.toList _ _ h4 k4 hal (room_in hu) j (by simpa using j1) (by simpa using j2) hj
        simpa using this
      · exact wpAny_truthy_bool hq
theorem keyLt_general (x y : Value) : keyLt' general' x y = oneLt' false x y := rfl
/-- the first items of tuples -/
def FO (h : Heap) (v : Value) (f : Option Value) : Prop := ∃ a o xs n, v = .ref a ∧ h.get? a = some o ∧ o.cls = .type "tuple" ∧ o.data = .seq xs n ∧ f = xs[0]?
theorem firsts_opt {M : Model} : ∀ (vs : List Value) (fs : List (Option Value)) {Q : List (Option Value) → Shared → Prop}, EachIs (FO s.heap) vs fs → Q fs s → wpAny M A (vs.mapM firstOfTuple') Q E s
  | [], [], _, _, h => by rw [List.mapM_nil]; exact wpAny_pure h
  | [], _ :: _, _, t, _ => nomatch t
  | _ :: _, [], _, t, _ => nomatch t
  | v :: vs, f :: fs, Q, t, h => by
    cases t with
    | cons h1 t =>
      obtain ⟨a, o, xs, n, rfl, ho, hc, hd, hf⟩ := h1
      rw [List.mapM_cons]
      refine wpAny_bind ?_
      rw [kas_first_eq]
      refine wpAny_bind (Looks.here (show Looks M s.heap (typeOf (.ref a)) o.cls from (Looks.ld ho).andThen .now) ?_)
      rw [hc, if_neg (by first | decide | simp)]
      refine wpAny_bind (listItems_at ho hd (wpAny_pure ?_))
      rw [← hf]
      exact wpAny_bind (firsts_opt vs fs (Q := fun bs s' => wpAny M A (pure (f :: bs)) Q E s') t (wpAny_pure h))
theorem each_fo {h : Heap} : ∀ {vs : List Value} {ds : List PyData}, EachIs (fun v d => ∃ as, Reads h v d as) vs ds → (∀ d ∈ ds, ∃ xs, d = .tuple xs) → ∃ fs, EachIs (FO h) vs fs ∧ EachIs (fun d f => (∃ x r, d = PyData.tuple (x :: r)) ↔ f.isSome = true) ds fs
  | _, _, .nil, _ => ⟨[], .nil, .nil⟩
  | _, _, .cons (b := d) ⟨as, r⟩ t, hd => by
    obtain ⟨fs, h1, h2⟩ := each_fo t fun d hm => hd d (List.mem_cons_of_mem _ hm)
    obtain ⟨xs, e⟩ := hd d List.mem_cons_self
    subst e
    cases r with
    | @tuple l o vs n _ _ k1 k2 k3 k4 =>
      refine ⟨vs[0]? :: fs, .cons ⟨l, o, vs, n, rfl, k1, k2, k3, rfl⟩ h1, .cons ?_ h2⟩
      have n1 : vs.size = xs.length := by simpa using ReadsAll.length _ _ _ k4
      constructor
      · rintro ⟨x, r, e⟩
        cases e
        rw [List.length_cons] at n1
        have : 0 < vs.size := by omega
        simp [this]
      · intro hs
        cases xs with
        | nil =>
          rw [List.length_nil] at n1
          have e : vs[0]? = none := by simp [n1]
          rw [e] at hs
          cases hs
        | cons x r => exact ⟨x, r, rfl⟩
theorem each_len {α β : Type} {R : α → β → Prop} : ∀ {as : List α} {bs : List β}, EachIs R as bs → as.length = bs.length
  | _, _, .nil => rfl
  | _, _, .cons _ t => congrArg (· + 1) (each_len t)
theorem data_sortable {a : Addr} {vs : List Value} {ds : List PyData} {k : Value → PyData} {h0 : Heap} (h2 : 2 ≤ vs.length) (hr : EachIs (fun v d => ∃ as, Reads h0 v d as) vs ds) (hv : ∀ v ∈ vs, k v ∈ ds ∧ ∃ as, Reads h0 v (k v) as)
    (hk : ∀ b o, h0.get? b = some o → b ≠ a ∧ s.heap.get? b = some o) (hal : AllAlike ds) (hn : ∀ d ∈ ds, d ≠ .none) (hu : ∀ d ∈ ds, A.units + d.depth < cLine) :
    SortableO prog w A s a vs fun v u => dataLt (k v) (k u) := by
  intro h' keep
  have hk' : ∀ b o, h0.get? b = some o → h'.get? b = some o := fun b o e => keep b o (hk b o e).1 (hk b o e).2
  have hr' : EachIs (fun v d => ∃ as, Reads h' v d as) vs ds := by
    clear hal hn hu hv h2
    induction hr with
    | nil => exact .nil
    | cons r t ih => obtain ⟨as, r⟩ := r; exact .cons ⟨as, PyProof.Rows.Reads.keeps hk' r⟩ ih
  have hv' : ∀ v ∈ vs, k v ∈ ds ∧ ∃ as, Reads h' v (k v) as := fun v hm => ⟨(hv v hm).1, (hv v hm).2.imp fun as r => PyProof.Rows.Reads.keeps hk' r⟩
  have room : ∀ {d d' : PyData}, d ∈ ds → A.units + min d.depth d'.depth < cLine := fun {d d'} hd => Nat.lt_of_le_of_lt (Nat.add_le_add_left (Nat.min_le_left _ _) _) (hu d hd)
  by_cases hS : W.Sortable ds
  · obtain ⟨_, kd, h3, h4⟩ := SortsAt.data (prog := prog) (w := w) (A := A) (s := { s with heap := h' }) hr' hal hS hu
    refine ⟨kd, fun Q E hq => h4 h2 E hq, fun p q hp hq => ?_⟩
    obtain ⟨m1, as1, r1⟩ := hv' _ hp
    obtain ⟨m2, as2, r2⟩ := hv' _ hq
    exact h3 _ p.1 q.1 _ _ (dataKind_some hal m1 r1) (dataKind_some hal m2 r2) ⟨rfl, rfl⟩
  · have ht : ∀ d ∈ ds, ∃ xs, d = .tuple xs := fun d hd => by
      rw [W.Sortable, not_or] at hS
      obtain ⟨d', hd', h6⟩ : ∃ d', d' ∈ ds ∧ ¬ (d' ≠ .none ∧ ∀ xs, d' ≠ .tuple xs) := by
        have := hS.2
        exact Classical.byContradiction fun z => this fun d' hd' => Classical.byContradiction fun z2 => z ⟨d', hd', z2⟩
      have h7 : ∃ xs, d' = .tuple xs := Classical.byContradiction fun z => h6 ⟨hn d' hd', fun xs e => z ⟨xs, e⟩⟩
      obtain ⟨xs, rfl⟩ := h7
      have := hal _ hd' d hd
      cases d <;> simp [alike] at this
      exact ⟨_, rfl⟩
    obtain ⟨fs, f1, f2⟩ := each_fo hr' ht
    have lf : vs.length = fs.length := each_len f1
    have none_in : fs.all (·.isSome) = false := by
      rw [List.all_eq_false]
      rw [W.Sortable, not_or] at hS
      obtain ⟨d, hd, h6⟩ : ∃ d, d ∈ ds ∧ ¬ ∃ x r, d = PyData.tuple (x :: r) := Classical.byContradiction fun z => hS.1 fun d hd => Classical.byContradiction fun z2 => z ⟨d, hd, z2⟩
      obtain ⟨f, hf, h7⟩ := f2.left d hd
      exact ⟨f, hf, fun e => h6 (h7.mpr e)⟩
    have cmp : ∀ b : Bool, ∀ p q : Keyed, p.1 ∈ vs → q.1 ∈ vs → wpAny (model prog w) A (oneLt' b p.1 q.1) (fun r s' => s' = { s with heap := h' } ∧ r = dataLt (k p.1) (k q.1)) (fun _ _ => False) { s with heap := h' } := by
      intro b p q hp hq
      obtain ⟨m1, as1, r1⟩ := hv' _ hp
      obtain ⟨m2, as2, r2⟩ := hv' _ hq
      cases b with
      | false => exact oneLt_alike (s := { s with heap := h' }) (fun z => by cases z) r1 r2 (hal _ m1 _ m2) (hn _ m1) (room m1) ⟨rfl, rfl⟩
      | true =>
        obtain ⟨xs, ex⟩ := ht _ m1
        obtain ⟨ys, ey⟩ := ht _ m2
        have hA := hal _ m1 _ m2
        have hR := room (d' := k q.1) m1
        rw [ex] at r1 hA hR
        rw [ey] at r2 hA hR
        refine oneLt_tups (s := { s with heap := h' }) r1 r2 hA hR ⟨rfl, ?_⟩
        rw [ex, ey]
    by_cases h8 : (fs.toArray[0]?.bind id).isSome = true
    · refine ⟨general', fun Q E hq => ?_, fun p q hp hq => ?_⟩
      · rw [keyKind'_eq, List.mapM_toArray, map_eq_pure_bind]
        refine wpAny_bind (wpAny_bind (firsts_opt (s := { s with heap := h' }) vs fs f1 (wpAny_pure ?_)))
        rw [if_neg (by simpa using none_in), if_pos h8]
        exact wpAny_pure hq
      · rw [keyLt_general]
        exact cmp false p q hp hq
    · refine ⟨oneType', fun Q E hq => ?_, fun p q hp hq => ?_⟩
      · rw [keyKind'_eq, List.mapM_toArray, map_eq_pure_bind]
        refine wpAny_bind (wpAny_bind (firsts_opt (s := { s with heap := h' }) vs fs f1 (wpAny_pure ?_)))
        rw [if_neg (by simpa using none_in), if_neg h8]
        rw [oneTypeOnly'_eq, List.mapM_toArray, map_eq_pure_bind]
        refine wpAny_bind (wpAny_bind (wpAny_bind (kas_mapM (r := Value.type "tuple") _ (fun v hv Q' hq => ?_) (wpAny_pure ?_))))
        · obtain ⟨d, hd, as, r⟩ := hr'.left v hv
          obtain ⟨xs, rfl⟩ := ht d hd
          exact (looks_reads (M := model prog w) r).here hq
        · have hall : ((List.map (fun _ => Value.type "tuple") vs).toArray.all fun x => x == Value.type "tuple") = true := by
            simp only [List.all_toArray, List.all_map, List.all_eq_true]
            intro _ _
            rfl
          have h0 : (List.map (fun _ => Value.type "tuple") vs).toArray[0]? = some (Value.type "tuple") := by
            cases vs with
            | nil => simp at h2
            | cons v vs => simp
          rw [h0]
          simp only [hall, if_true]
          exact wpAny_pure (wpAny_pure hq)
      · rw [keyLt'_oneType]
        exact cmp true p q hp hq
theorem perm_lift {α β : Type} (f : α → β) {l l' : List β} (p : l.Perm l') : ∀ t : List α, t.map f = l' → ∃ t' : List α, t'.Perm t ∧ t'.map f = l := by
  induction p with
  | nil => intro t e; exact ⟨t, .refl _, e⟩
  | cons x _ ih =>
    intro t e
    cases t with
    | nil => cases e
    | cons a t =>
      rw [List.map_cons] at e
      injection e with e1 e2
      obtain ⟨t', h1, h2⟩ := ih t e2
      exact ⟨a :: t', h1.cons a, by rw [List.map_cons, e1, h2]⟩
  | swap x y l =>
    intro t e
    match t, e with
    | a :: b :: t, e =>
      rw [List.map_cons, List.map_cons] at e
      injection e with e1 e2
      injection e2 with e2 e3
      exact ⟨b :: a :: t, .swap _ _ _, by rw [List.map_cons, List.map_cons, e1, e2, e3]⟩
  | trans _ _ ih1 ih2 =>
    intro t e
    obtain ⟨t2, h1, h2⟩ := ih2 t e
    obtain ⟨t3, h3, h4⟩ := ih1 t2 h2
    exact ⟨t3, h3.trans h1, h4⟩
end
end SrtD
namespace L2
open PySem PySem.Spec PyProof.Rows PySem.W
/-- sorted(xs), xs a list or a tuple of alike data -/
def rSortedD (K : PySem.W.Frag) : List V → Hp → VK → Prop := fun vs H Q => ∃ (a : Addr) (xs : List V) (ds : List PyData), vs = [V.ref a] ∧ (SqL K H a xs ∨ SqT K H a xs) ∧ DpAll K H xs ds ∧ AllAlike ds ∧ (∀ d ∈ ds, d ≠ .none ∧ d.depth ≤ 60) ∧
  ∀ (zs : List (V × PyData)) (p : Addr), zs.Perm (xs.zip ds) → zs.Pairwise (fun x y => dataLt y.2 x.2 = false) → H p = none → Q (.ref p) (upd H p (.lst (zs.map (·.1))))
section
variable {X : Cx}
theorem each_reads {h : Heap} : ∀ {vs : List Value} {ds : List PyData} {as : List Addr}, ReadsAll h vs ds as → EachIs (fun v d => ∃ as, Reads h v d as) vs ds
  | _, _, _, .nil => .nil
  | _, _, _, .cons r t => .cons ⟨_, r⟩ (each_reads t)
theorem trip_of {h : Heap} : ∀ {xs : List V} {us : List Value} {ds : List PyData}, Vals xs us → EachIs (fun v d => ∃ as, Reads h v d as) us ds →
    ∃ t : List (Value × (V × PyData)), t.map (·.1) = us ∧ t.map (·.2) = xs.zip ds ∧ ∀ x ∈ t, RelV x.2.1 x.1 ∧ x.2.2 ∈ ds ∧ ∃ as, Reads h x.1 x.2.2 as
  | _, _, _, .nil, .nil => ⟨[], rfl, rfl, fun x hx => by cases hx⟩
  | _, _, _, .cons (a := x) (b := u) r t, .cons (b := d) e et => by
    obtain ⟨t', h1, h2, h3⟩ := trip_of t et
    refine ⟨(u, (x, d)) :: t', by simp [h1], by simp [h2], fun y hy => ?_⟩
    rcases List.mem_cons.mp hy with z | z
    · subst z
      exact ⟨r, List.mem_cons_self, e⟩
    · exact ⟨(h3 y z).1, List.mem_cons_of_mem _ (h3 y z).2.1, (h3 y z).2.2⟩
theorem vals_trip : ∀ {t : List (Value × (V × PyData))}, (∀ x ∈ t, RelV x.2.1 x.1) → Vals (t.map fun x => x.2.1) (t.map (·.1))
  | [], _ => .nil
  | x :: t, h => .cons (h x List.mem_cons_self) (vals_trip fun y hy => h y (List.mem_cons_of_mem _ hy))
theorem cr_sortedD (hu : X.A.units + 70 < cLine) : CallR X (.builtin "sorted") (rSortedD X.K) := by
  intro pins s σ H vs us Q I r h
  obtain ⟨a, xs, ds, rfl, hs, hd, hal, hn, q⟩ := h
  obtain ⟨T, its, o, n, hT, rv, ho, hc, hdt, hz⟩ := I.sq hs
  rw [Vals.ref1 r]
  obtain ⟨as, ra⟩ := Dp.readsAll I ds xs its hd rv
  have er := each_reads ra
  obtain ⟨t, t1, t2, t3⟩ := trip_of rv er
  let k : Value → PyData := fun v => open Classical in if z : ∃ d, d ∈ ds ∧ ∃ as, Reads s.heap v d as then z.choose else .none
  have hk : ∀ v d, d ∈ ds → (∃ as, Reads s.heap v d as) → k v = d := fun v d h1 h2 => by
    have z : ∃ d, d ∈ ds ∧ ∃ as, Reads s.heap v d as := ⟨d, h1, h2⟩
    have e : k v = z.choose := dif_pos z
    obtain ⟨m, as1, r1⟩ := z.choose_spec
    obtain ⟨as2, r2⟩ := h2
    rw [e]
    exact alike_unique _ _ _ _ _ (hal _ m _ h1) r1 r2
  have hv : ∀ v ∈ its, k v ∈ ds ∧ ∃ as, Reads s.heap v (k v) as := fun v hm => by
    obtain ⟨d, h1, h2⟩ := er.left v hm
    rw [hk v d h1 h2]
    exact ⟨h1, h2⟩
  have hU : ∀ d ∈ ds, X.A.in1.in1.units + d.depth < cLine := fun d hd => by
    have := (hn d hd).2
    have e : X.A.in1.in1.units ≤ X.A.units + 8 := by
      first
        | exact Nat.le_add_right _ _
        | (show _ ≤ _; simp [Around.in1])
    omega
  refine SrtO.sorted_col (SrtD.swo_data k) (vs := its) (by rw [← rv.length]; exact hz) (fun Q' hq => ?_) (fun h2 h₁ tk a' _ hkk => SrtD.data_sortable (s := { s with heap := h₁, toks := tk }) h2 er hv hkk hal (fun d hd => (hn d hd).1) hU) fun out h0 h' tk h1 h2 k0 k1 hat => ?_
  · refine wpAny_collect_seq a hT ho hc hdt (fun h' hk => ?_) (by rw [List.size_toArray, ← rv.length]; exact hz)
    have := hq h' s.toks hk
    rw [List.toList_toArray]
    exact this
  · obtain ⟨ep, he'⟩ := hat
    obtain ⟨t', p1, p2⟩ := SrtD.perm_lift (fun x : Value × (V × PyData) => x.1) h2.perm t t1
    have m3 : ∀ x ∈ t', RelV x.2.1 x.1 ∧ x.2.2 ∈ ds ∧ ∃ as, Reads s.heap x.1 x.2.2 as := fun x hx => t3 x (p1.mem_iff.mp hx)
    have rvs : Vals (t'.map fun x => x.2.1) out := by
      have := vals_trip fun x hx => (m3 x hx).1
      rw [p2] at this
      exact this
    have hlen : (t'.map fun x => x.2.1).length ≤ sizeLine := by
      rw [rvs.length, h2.perm.length_eq, ← rv.length]
      exact hz
    have I1 : Inv X pins σ H { s with heap := h0, toks := tk } := I.kept k0
    refine ⟨.ref _, upd H h0.objs.size (.lst (t'.map fun x => x.2.1)), I1.laid (t' := tk) k1 (Nat.le_refl _) ⟨hlen, out, ep, rvs, he'⟩, rfl, ?_⟩
    have q' := q (t'.map (·.2)) h0.objs.size (by rw [← t2]; exact p1.map _) ?_ (I1.hok.fresh (Nat.le_refl _))
    · rw [List.map_map] at q'
      exact q'
    · rw [← p2] at h1
      rw [List.pairwise_map]
      have h1' : t'.Pairwise (fun x y => dataLt (k y.1) (k x.1) = false) := List.pairwise_map.mp h1
      refine List.Pairwise.imp_of_mem (fun hx hy h => ?_) h1'
      rw [hk _ _ (m3 _ hx).2.1 (m3 _ hx).2.2, hk _ _ (m3 _ hy).2.1 (m3 _ hy).2.2] at h
      exact h
end
end L2
/-! sorted(..) of data -/
namespace DL
open PySem PySem.Spec PyProof.Rows L2 PySem.W SrtO
/-! ### insertion sort -/
section
variable {α : Type} (lt : α → α → Bool)
def insS (x : α) : List α → List α
  | [] => [x]
  | y :: l => if lt y x = true then y :: insS x l else x :: y :: l
def isort : List α → List α
  | [] => []
  | x :: l => insS lt x (isort l)
variable {lt}
theorem insS_perm (x : α) : ∀ l : List α, (insS lt x l).Perm (x :: l)
  | [] => .refl _
  | y :: l => by
    unfold insS
    split
    · exact ((insS_perm x l).cons y).trans (.swap _ _ _)
    · exact .refl _
theorem isort_perm : ∀ l : List α, (isort lt l).Perm l
  | [] => .refl _
  | x :: l => (insS_perm x _).trans ((isort_perm l).cons x)
theorem insS_sorted (O : Swo lt) (x : α) : ∀ l : List α, l.Pairwise (fun a b => lt b a = false) → (insS lt x l).Pairwise (fun a b => lt b a = false)
  | [], _ => List.pairwise_singleton _ _
  | y :: l, h => by
    have h' := List.pairwise_cons.mp h
    unfold insS
    split
    · rename_i h1
      refine List.pairwise_cons.mpr ⟨fun z hz => ?_, insS_sorted O x l h'.2⟩
      rcases List.mem_cons.mp ((insS_perm x l).mem_iff.mp hz) with e | e
      · subst e; exact O.asym _ _ h1
      · exact h'.1 z e
    · rename_i h1
      have h1 : lt y x = false := by simpa using h1
      refine List.pairwise_cons.mpr ⟨fun z hz => ?_, h⟩
      rcases List.mem_cons.mp hz with e | e
      · subst e; exact h1
      · exact O.tr x y z h1 (h'.1 z e)
theorem isort_sorted (O : Swo lt) : ∀ l : List α, (isort lt l).Pairwise (fun a b => lt b a = false)
  | [] => List.Pairwise.nil
  | x :: l => insS_sorted O x _ (isort_sorted O l)
end
theorem toPys_map : ∀ ds : List D, toPys ds = ds.map toPy
  | [] => rfl
  | d :: ds => by rw [toPys, toPys_map ds]; rfl
def ltD (a b : D) : Bool := dataLt (toPy a) (toPy b)
theorem ltD_swo : Swo ltD := SrtD.swo_data toPy
theorem ltD_anti {a b : D} (hal : alike (toPy a) (toPy b) = true) (ha : nb a = true) (hb : nb b = true) (h1 : ltD a b = false) (h2 : ltD b a = false) : a = b := by
  have e : keyToks (toPy a) = keyToks (toPy b) := (listOrd itemOrd).total _ _ h1 h2
  cases q : PyData.eqv (toPy a) (toPy b) with
  | true => exact (eqv_nb a b ha hb).mp q
  | false =>
    have z := (toks_eqv _ _ hal).2 q [Sum.inl 0] [Sum.inl 1]
    rw [← e, lex_pre] at z
    have z2 : PyProof.Rows.lexLt itemOrd (keyToks (toPy a)) (keyToks (toPy a)) = false := (listOrd itemOrd).irrefl _
    rw [z2, lex_one] at z
    have : itemLt (Sum.inl 0) (Sum.inl 1) = true := by decide
    rw [this] at z
    cases z
/-- ready to be sorted -/
def srtOk (ds : List D) : Prop := AllAlike (ds.map toPy) ∧ ∀ d ∈ ds, pl d = true ∧ nb d = true ∧ d ≠ .non ∧ dep d ≤ 60
section
variable {T : Tb} {K : PySem.W.Frag} {E : XK} {g : G} {r r1 r2 : Rs} {ta tb te : TE} {x y d : D} {ds es : List D} {tas : TA}
theorem pls_of : ∀ {ds : List D}, (∀ d ∈ ds, pl d = true) → pls ds = true
  | [], _ => rfl
  | d :: ds, h => by
    unfold pls
    rw [h d List.mem_cons_self, pls_of fun e he => h e (List.mem_cons_of_mem _ he)]
    rfl
theorem toPy_none {d : D} (h : pl d = true) (hn : d ≠ .non) : toPy d ≠ .none := by
  cases d <;> simp [toPy, pl] at h hn ⊢
theorem zip_py : ∀ (xs : List V) (ds : List D), (xs.zip ds).map (fun p => (p.1, toPy p.2)) = xs.zip (ds.map toPy)
  | [], _ => rfl
  | _ :: _, [] => rfl
  | x :: xs, d :: ds => by
    rw [List.zip_cons_cons, List.map_cons, zip_py xs ds]
    rfl
theorem drs_zip {Hs : Hp} : ∀ {xs : List V} {ds : List D}, DRs K Hs xs ds → ∀ p ∈ xs.zip ds, DR K Hs p.1 p.2
  | _, _, .nil, p, h => by cases h
  | _, _, .cons r t, p, h => by
    rcases List.mem_cons.mp h with e | e
    · subst e; exact r
    · exact drs_zip t p e
theorem zip_drs {Hs : Hp} : ∀ {t : List (V × D)}, (∀ p ∈ t, DR K Hs p.1 p.2) → DRs K Hs (t.map (·.1)) (t.map (·.2))
  | [], _ => .nil
  | p :: t, h => .cons (h p List.mem_cons_self) (zip_drs fun q hq => h q (List.mem_cons_of_mem _ hq))
theorem en_sortedD (h : EvA T K tas g r [x] r1) (hv : Vs x r1 ds) (hok : srtOk ds) (h1 : es.Perm ds) (h2 : es.Pairwise (fun a b => ltD b a = false)) : EvN T K (tCB (rSortedD K) tas) g r es r1 := fun rf Hs H σ s Q q => h rf Hs H σ s _ fun vs Hs1 H1 e s1 rvs => by
  obtain ⟨v, rfl, rv⟩ := rvs.one
  obtain ⟨a, xs, rfl, a1, a2⟩ := hv.at s1 rv
  refine ⟨a, xs, ds.map toPy, rfl, a1, ?_, hok.1, fun d hd => ?_, fun zs p p1 p2 hn => ?_⟩
  · rw [← toPys_map]
    exact DRs.dp s1.ex ds (pls_of fun d hd => (hok.2 d hd).1) a2
  · obtain ⟨c, hc, rfl⟩ := List.mem_map.mp hd
    obtain ⟨k1, k2, k3, k4⟩ := hok.2 c hc
    exact ⟨toPy_none k1 k3, by rw [dep_eq]; exact k4⟩
  · obtain ⟨t, t1, t2⟩ := SrtD.perm_lift (fun p : V × D => (p.1, toPy p.2)) p1 (xs.zip ds) (zip_py xs ds)
    subst t2
    rw [List.pairwise_map] at p2
    have hl := a2.length
    have t3 : (t.map (·.2)).Perm ds := by
      have := t1.map (fun p : V × D => p.2)
      rwa [List.map_snd_zip (by omega)] at this
    have t4 : (t.map (·.2)).Pairwise (fun a b => ltD b a = false) := List.pairwise_map.mpr p2
    have t5 : t.map (·.2) = es := by
      refine List.Perm.eq_of_pairwise (le := fun a b => ltD b a = false) (fun a b ha hb g1 g2 => ?_) t4 h2 (t3.trans h1.symm)
      have ma := t3.mem_iff.mp ha
      have mb := h1.mem_iff.mp hb
      exact ltD_anti (hok.1 _ (List.mem_map_of_mem ma) _ (List.mem_map_of_mem mb)) (hok.2 a ma).2.1 (hok.2 b mb).2.1 g2 g1
    have t6 := zip_drs (K := K) (Hs := Hs1) (t := t) fun p hp => drs_zip a2 p (t1.mem_iff.mp hp)
    rw [t5] at t6
    rw [List.map_map]
    exact q p Hs1 _ e (s1.own (o := .lst _) hn True.intro (x := rl p es) rfl ⟨_, upd_same, t6⟩)
/-! ### rows of ints -/
def lexI : List Int → List Int → Bool
  | [], [] => false
  | [], _ :: _ => true
  | _ :: _, [] => false
  | a :: x, b :: y => if a = b then lexI x y else decide (a < b)
theorem ltD_row : ∀ a b : List Int, ltD (rowD a) (rowD b) = lexI a b := by
  have key : ∀ a b : List Int, PyProof.Rows.lexLt itemOrd (keyToksAll (a.map fun i => PyData.int i)) (keyToksAll (b.map fun i => PyData.int i)) = lexI a b := by
    intro a
    induction a with
    | nil =>
      intro b
      cases b with
      | nil => exact (listOrd itemOrd).irrefl (keyToksAll [])
      | cons y b =>
        show PyProof.Rows.lexLt itemOrd (keyToksAll []) (keyToksAll (PyData.int y :: _)) = true
        rw [toks_all_cons]
        show PyProof.Rows.lexLt itemOrd [Sum.inl 0] (Sum.inl 1 :: _) = true
        rw [lex_diff (by simp)]
        decide
    | cons x a ih =>
      intro b
      cases b with
      | nil =>
        show PyProof.Rows.lexLt itemOrd (keyToksAll (PyData.int x :: _)) (keyToksAll []) = false
        rw [toks_all_cons]
        show PyProof.Rows.lexLt itemOrd (Sum.inl 1 :: _) [Sum.inl 0] = false
        rw [lex_diff (by simp)]
        decide
      | cons y b =>
        show PyProof.Rows.lexLt itemOrd (keyToksAll (PyData.int x :: _)) (keyToksAll (PyData.int y :: _)) = _
        unfold lexI
        have hal : alike (.int x) (.int y) = true := rfl
        by_cases e : x = y
        · subst e
          rw [if_pos rfl, dataLt_all_yes hal (by simp [PyData.eqv])]
          exact ih b
        · rw [if_neg e, dataLt_all_no hal (by simp [PyData.eqv]; exact e), dataLt_int]
  intro a b
  show dataLt (.tuple (toPys (a.map D.int))) (.tuple (toPys (b.map D.int))) = _
  rw [dataLt_tuple, toPys_map, toPys_map, List.map_map, List.map_map]
  exact key a b
theorem lexI_swo : Swo lexI := ⟨fun x y h => by rw [← ltD_row] at h ⊢; exact ltD_swo.asym _ _ h, fun x y z h1 h2 => by rw [← ltD_row] at h1 h2 ⊢; exact ltD_swo.tr _ _ _ h1 h2⟩
theorem alike_ints : ∀ a b : List Int, alikeAll (a.map fun i => PyData.int i) (b.map fun i => PyData.int i) = true
  | [], _ => by rw [List.map_nil, alikeAll]
  | _ :: _, [] => by rw [List.map_nil, List.map_cons, alikeAll]
  | x :: a, y :: b => by
    rw [List.map_cons, List.map_cons, alikeAll, alike_ints a b]
    rfl
theorem nbs_ints : ∀ l : List Int, nbs (l.map D.int) = true
  | [] => rfl
  | a :: l => by rw [List.map_cons, nbs, nbs_ints l]; rfl
theorem pls_ints : ∀ l : List Int, pls (l.map D.int) = true
  | [] => rfl
  | a :: l => by rw [List.map_cons, pls, pls_ints l]; rfl
theorem deps_ints : ∀ l : List Int, deps (l.map D.int) = 0
  | [] => rfl
  | a :: l => by rw [List.map_cons, deps, deps_ints l]; rfl
theorem srtOk_rows (ls : List (List Int)) : srtOk (ls.map rowD) := by
  refine ⟨fun d hd d' hd' => ?_, fun d hd => ?_⟩
  · rw [List.map_map] at hd hd'
    obtain ⟨a, _, rfl⟩ := List.mem_map.mp hd
    obtain ⟨b, _, rfl⟩ := List.mem_map.mp hd'
    show alike (.tuple (toPys (a.map D.int))) (.tuple (toPys (b.map D.int))) = true
    rw [alike, toPys_map, toPys_map, List.map_map, List.map_map]
    exact alike_ints a b
  · obtain ⟨a, _, rfl⟩ := List.mem_map.mp hd
    refine ⟨pls_ints a, nbs_ints a, fun z => (by cases z), ?_⟩
    show deps (a.map D.int) + 1 ≤ 60
    rw [deps_ints]
    omega
abbrev srtR (ls : List (List Int)) : List (List Int) := isort lexI ls
theorem en_sortedRows {ls : List (List Int)} (h : EvA T K tas g r [x] r1) (hv : Vs x r1 (ls.map rowD)) : EvN T K (tCB (rSortedD K) tas) g r ((srtR ls).map rowD) r1 :=
  en_sortedD h hv (srtOk_rows ls) ((isort_perm ls).map _) (by
    rw [List.pairwise_map]
    refine (isort_sorted lexI_swo ls).imp fun h => ?_
    rw [ltD_row]
    exact h)
/-! ### texts -/
def ltS (a b : Str) : Bool := decide (a.cps.toList < b.cps.toList)
theorem ltD_str (a b : Str) : ltD (.str a) (.str b) = ltS a b := dataLt_str a b
theorem ltS_swo : Swo ltS := ⟨fun x y h => by rw [← ltD_str] at h ⊢; exact ltD_swo.asym _ _ h, fun x y z h1 h2 => by rw [← ltD_str] at h1 h2 ⊢; exact ltD_swo.tr _ _ _ h1 h2⟩
abbrev srtS (l : List Str) : List Str := isort ltS l
theorem srtOk_strs {l : List Str} (hl : ∀ x ∈ l, PyData.strOk x = true) : srtOk (l.map D.str) := by
  refine ⟨fun d hd d' hd' => ?_, fun d hd => ?_⟩
  · rw [List.map_map] at hd hd'
    obtain ⟨a, _, rfl⟩ := List.mem_map.mp hd
    obtain ⟨b, _, rfl⟩ := List.mem_map.mp hd'
    rfl
  · obtain ⟨a, ha, rfl⟩ := List.mem_map.mp hd
    exact ⟨hl a ha, rfl, fun z => (by cases z), by show 0 ≤ 60; omega⟩
theorem en_sortedStrs {l : List Str} (hl : ∀ x ∈ l, PyData.strOk x = true) (h : EvA T K tas g r [x] r1) (hv : Vs x r1 (l.map D.str)) : EvN T K (tCB (rSortedD K) tas) g r ((srtS l).map D.str) r1 :=
  en_sortedD h hv (srtOk_strs hl) ((isort_perm l).map _) (by
    rw [List.pairwise_map]
    refine (isort_sorted ltS_swo l).imp fun h => ?_
    rw [ltD_str]
    exact h)
end
end DL
/-! defs that want a token to be out when they are called -/
namespace TkO
open PySem PySem.Spec PyProof.Rows L2 CwR
/-- such a def keeps its promise -/
structure FnT (P : Program) (w : World) (K : PySem.W.Frag) (mg : Str → Option Value) (base : Heap) (CX : CXT) (k : Nat) (f : Addr) (fd : FuncData) (ps : List Str) (sp : Sp) : Prop where
  len : ∀ vs H Q E, sp vs H Q E → vs.length = ps.length
  run : ∀ (A : Around) (outer : List Env) (s : Shared) (H : Hp) (args : Args) (us : List Value) (vs : List V) (Q : VK) (E : XK), 1 ≤ s.toks → Room k A →
    Env0 P w K mg base A outer s H → BindsTo s fd args (ps.zip us) → Vals vs us → sp vs H Q E → codeAny (model P w) A (.call (.ref f) args) (CR CX outer P w H s Q E) s
theorem FnT.of {P : Program} {w : World} {K : PySem.W.Frag} {mg : Str → Option Value} {base : Heap} {CX : CXT} {k : Nat} {f : Addr} {fd : FuncData} {ps : List Str} {sp : Sp} (F : FnOk P w K mg base CX k f fd ps sp) : FnT P w K mg base CX k f fd ps sp :=
  ⟨F.len, fun A outer s H args us vs Q E _ => F.run A outer s H args us vs Q E⟩
section
variable {X : Cx} {CX : CXT} {P : Program} {w : World} {K : PySem.W.Frag} {mg : Str → Option Value} {base : Heap} {k j : Nat} {f : Addr} {fd : FuncData} {ps : List Str} {sp : Sp} {E : XK} {ds : List Value} {dvs : List V} {x : Str} {e a b : Expr} {es rest' : List Expr} {p pos : Pos}
  {t tas : TA} {ta tb te : TE} {tA tB' : TT} {rest : List Stmt} {st : Stmt} {u ts : TS}
/-- from a def's body, a token out -/
theorem fnT_of {name qual : Str} {params : Arguments} {body : List Stmt} {scope : Scope} {dV kV doc pm cdv ct oc : Value} {an od : Option Addr} {osl : Array (Option Value)} {N : List Str}
    (lk : K.lookup f = some ⟨oc, od, .func (PySem.W.fnOf name qual params body scope dV kV doc pm an cdv ct), osl⟩) (hcd : PySem.W.codeIn K cdv qual = true) (S : FnScope N ps scope) (len : ∀ vs H Q E, sp vs H Q E → vs.length = ps.length)
    (hb : ∀ (A : Around) (outer : List Env) (s : Shared) (H : Hp) (vs : List V) (Q : VK) (E : XK), Room k (A.deeper (envOfC qual scope s.heap.objs.size f cdv)) → sp vs H Q E →
      ∃ t, PSsT (cxOf CX P w K mg base N qual scope f cdv A outer s H E) body t ∧ t { nx := fun _ H' => Q .non H', rt := Q } (start N vs) H) :
    FnT P w K mg base CX (k + 1) f (PySem.W.fnOf name qual params body scope dV kV doc pm an cdv ct) ps sp := by
  refine ⟨len, fun A outer s H args us vs Q E tk hr e0 bd rv want => ?_⟩
  have hlen := len _ _ _ _ want
  have inK : K.In s.heap := e0.mod.kin.keeps fun b o z => (e0.bs b o z).1
  have free : s.heap.NoLimit := e0.mod.nolimit.keeps fun b o z => (e0.bs b o z).1
  have kinds : ∀ y ∈ ps.zip us, scope.names.lookup y.1 = some .local ∨ (scope.names.lookup y.1 = some .cell ∧ ((cellsFrom (s.heap.objs.size + 1) scope.names []).lookup y.1).isSome = true) := by
    rintro ⟨n, v⟩ hy
    cases S.par n (List.of_mem_zip hy).1 with
    | inl q => exact Or.inl q
    | inr q => exact Or.inr ⟨q, PySem.W.cellsFrom_some _ _ _ (Or.inl q)⟩
  refine codeAny_call_function hr.depth (inK _ _ lk) rfl S.co S.gen rfl (PySem.W.codeRec_of inK hcd) (bd _ _ _ _ ?_)
  refine wpAny_mono (PySem.wpAny_toks (wpAny_newFunctionEnv_cells (E := fun _ _ => False) (Q := fun env s1 => env = _ ∧ _) S.kind kinds fun env he s1 x => ⟨he, x⟩)) (fun env s1 hs1 => ?_) fun _ _ z => z.2.elim
  obtain ⟨tk1, he, x⟩ := hs1
  subst he
  refine ⟨free.keeps x.toInCall.keep, codeAny_func ?_⟩
  obtain ⟨t, ht, hq⟩ := hb A outer s H vs Q E (hr.deeper _) want
  have I : Inv (cxOf CX P w K mg base N qual scope f cdv A outer s H E) [] (start N vs) H s1 := inv_start S hr.hd e0 hlen rv x
  refine wpAny_mono (ht [] s1 (start N vs) H _ (Nat.le_trans tk tk1) I hq) (fun fl s' hs => ?_) fun e s' hs => hs
  have close : ∀ {σ' : L2.St} {H' : Hp} {v : V} {u : Value}, Inv (cxOf CX P w K mg base N qual scope f cdv A outer s H E) [] σ' H' s' → RelV v u → Q v H' → CE outer P w H s Q u s' := by
    intro σ' H' v u J r q
    exact ⟨v, H', J.os, J.bare, J.base, J.hok, r, q⟩
  cases fl with
  | ret u =>
    obtain ⟨v, σ', H', J, r, q⟩ := hs
    exact close J r q
  | next =>
    obtain ⟨σ', H', J, q⟩ := hs
    exact close (v := V.non) (u := Value.none) J rfl q
  | brk => exact hs.choose_spec.choose_spec.2.elim
  | cont => exact hs.choose_spec.choose_spec.2.elim
/-- the call of such a def -/
theorem pet_call (F : FnT X.prog X.w X.K X.mg X.base CX k f fd ps sp) (hr : Room k X.A) (hg : Gl X x) (hm : X.mg x = some (.ref f)) (hk : PySem.W.keepIn X.K (.ref f) = true) (hb : Binds X.K fd ps ds) (hd : Vals dvs ds) (hx : Passes CX X E)
    (ha : PA X (e :: es) t) (hdb : (x == ("__debug__" : Str)) = false := by decide) (he : starEach (e :: es) X.env = (false, eval e X.env) :: starEach es X.env := by rfl) (hpl : (backTo pos (starEach es X.env)).any (·.1) = false := by rfl) :
    PET X (.Call (.Name x p) (e :: es) [] pos) (tCall sp dvs E t) := fun pins s σ H Q h0 I h => by
  refine wpAny_Call_Name_kw (ld_glob I hg hm ?_ hdb)
  refine PySem.W.callWith_K (h₀ := X.base) I.ok.mod.kin hk (wpAny_mono (PySem.wpAny_toks_of h0 (ha.run pos pins s σ H _ I h)) (fun us s1 ⟨tk, vs, H1, I1, r, q⟩ => ⟨I1.kIn, ?_⟩) fun _ _ z => z.2) he hpl
  have r2 : Vals (vs ++ dvs) (us ++ ds) := r.append hd
  have hl : (us ++ ds).length = ps.length := by
    rw [← r2.length]
    exact F.len _ _ _ _ q
  refine wpAny_call (codeAny_mono (F.run X.A X.stack s1 H1 ⟨us, []⟩ (us ++ ds) (vs ++ dvs) Q E tk hr I1.env0 (hb s1 us I1.kIn hl) r2 q) fun o s' hq => ?_)
  cases o with
  | error e => exact hx pins σ H1 s1 e s' I1 hq
  | ok fl =>
    cases fl with
    | ret u => exact I1.after hq
    | next => exact hq.elim
    | brk => exact hq.elim
    | cont => exact hq.elim
theorem pst_set {i : Nat} {pos' : Pos} (hN : X.N.Nodup) (hi : X.N[i]? = some x) (hx : Loc X.env.scope x) (he : PET X e te) (hs : swapsWith e (some (.Name x pos')) pos.line X.env = pure false := by rfl) (hf : X.fn x = true ∨ X.env.scope.names.lookup x = some .local := by first | exact .inl rfl | exact .inr rfl | assumption) :
    PST X (.Assign [.Name x pos'] e pos) (tAsg te (gName i)) := fun pins s σ H D h0 I h => by
  refine wpAny_Assign_Name (thn (he pins s σ H _ h0 I h) fun v s1 ⟨y, H1, I1, r1, q1⟩ => ?_) hs
  exact store_ok I1 hN hi hx r1 (fun s2 I2 => ⟨_, H1, I2, q1⟩) hf
/-! tests, a token out -/
def PTT (X : Cx) (e : Expr) (t : TT) : Prop := ∀ (pins : List (Addr × Obj)) (s : Shared) (σ : L2.St) (H : Hp) (Q : Bool → Hp → Prop), 1 ≤ s.toks → Inv X pins σ H s → t σ H Q → wpAny (model X.prog X.w) X.A (isTrue e X.env (eval e X.env)) (TP X pins σ Q) X.xe s
def PWT (X : Cx) (e : Expr) (t : TT) : Prop := ∀ (whole : Sem Value) (pins : List (Addr × Obj)) (s : Shared) (σ : L2.St) (H : Hp) (Q : Bool → Hp → Prop), 1 ≤ s.toks → Inv X pins σ H s → t σ H Q → wpAny (model X.prog X.w) X.A (isTrue e X.env whole) (TP X pins σ Q) X.xe s
theorem PTT.of (h : PT X e tA) : PTT X e tA := fun pins s σ H Q _ I q => h.run pins s σ H Q I q
theorem PWT.pt (h : PWT X e tA) : PTT X e tA := fun pins s σ H Q h0 I q => h _ pins s σ H Q h0 I q
theorem pwt_or1 (ha : PTT X a tA) : PWT X (.BoolOp .Or [a] pos) tA := fun wh pins s σ H Q h0 I h => by
  refine isTrue_or (thn (ha pins s σ H Q h0 I h) fun c s1 z => ?_)
  cases c with
  | false => exact isTrue_or_nil z
  | true => exact z
theorem pwt_or (ha : PTT X a tA) (hb : PWT X (.BoolOp .Or (b :: rest') pos) tB') : PWT X (.BoolOp .Or (a :: b :: rest') pos) (tOr tA tB') := fun wh pins s σ H Q h0 I h => by
  refine isTrue_or (wpAny_mono (PySem.wpAny_toks_of h0 (ha pins s σ H _ h0 I h)) (fun c s1 tz => ?_) fun _ _ z => z.2)
  obtain ⟨tk, H1, I1, q1⟩ := tz
  cases c with
  | true => exact ⟨H1, I1, q1⟩
  | false => exact hb wh pins s1 σ H1 Q tk I1 q1
theorem ptt_cmpR {op : CmpOp} {r : R2} (ho : OpR X (compareOp op) r) (ha : PET X a ta) (hb : PE X b tb) (hm : behindInMarks op b = false) : PTT X (.Compare a [op] [b] pos) (tTest (tOp r ta tb)) := fun pins s σ H Q h0 I h => by
  refine wpAny_isTrue_Compare1 (thn (ha pins s σ H _ h0 I h) fun v s1 ⟨x, H1, I1, r1, q1⟩ => thn (hb.run pins s1 σ H1 _ I1 q1) fun u s2 ⟨y, H2, I2, r2, q2⟩ => ?_) hm
  refine thn (ho pins s2 σ H2 x y v u _ I2 r1 r2 q2) fun c s3 ⟨z, H3, I3, r3, k, e3, q3⟩ => ?_
  subst e3
  cases r3
  exact wpAny_truthy_bool ⟨H3, I3, q3⟩
theorem pst_ifT {c : Expr} {xs ys : List Stmt} {tc : TT} {t u : TS} (hc : PTT X c tc) (ha : PSsT X xs t) (hb : PSsT X ys u) : PST X (.If c xs ys pos) (tIfS tc t u) := fun pins s σ H D h0 I h => by
  refine wpAny_If (wpAny_mono (PySem.wpAny_toks_of h0 (hc pins s σ H _ h0 I h)) (fun d s1 tz => ?_) fun _ _ z => z.2)
  obtain ⟨tk, H1, I1, q1⟩ := tz
  cases d with
  | false => exact hb pins s1 σ H1 D tk I1 q1
  | true => exact ha pins s1 σ H1 D tk I1 q1
/-- a test that begins with a written text: behind it a token is out -/
theorem ps_ifS {op : CmpOp} {r : R2} {y : Str} {jc : Nat} {cp : Pos} {xs ys : List Stmt} {t u : TS} (ho : OpR X (compareOp op) r) (hb : PE X b tb) (hm : behindInMarks op b = false) (h1 : PSsT X xs t) (h2 : PSsT X ys u) :
    PS X (.If (.Compare (.Constant (.str y) jc cp) [op] [b] pos) xs ys p) (tIfS (tTest (tOp r (tC (.str y)) tb)) t u) := ⟨fun pins s σ H D I h => by
  refine wpAny_If (Q := fun f s' => SP X pins D f s') (wpAny_isTrue_Compare1 (Calls.Constant_str ?_) hm)
  have n1 : 1 ≤ ({ s with toks := s.toks + 1 } : Shared).toks := Nat.le_add_left 1 s.toks
  refine wpAny_mono (PySem.wpAny_toks_of n1 (hb.run pins _ σ H _ (I.tok _) h)) (fun v s2 ⟨k2, z2, H2, I2, r2, q2⟩ => ?_) fun _ _ z => z.2
  refine wpAny_mono (PySem.wpAny_toks_of k2 (ho pins s2 σ H2 (.str y) z2 (.str y s.toks) v _ I2 ⟨_, rfl⟩ r2 q2)) (fun c s3 ⟨k3, z3, H3, I3, r3, b3, e3, q3⟩ => ?_) fun _ _ z => z.2
  subst e3
  cases r3
  refine wpAny_truthy_bool ?_
  cases b3 with
  | false => exact h2 pins s3 σ H3 D k3 I3 q3
  | true => exact h1 pins s3 σ H3 D k3 I3 q3⟩
/-- behind a statement that begins with a written number a token is out -/
theorem pss_numT {i jc : Nat} {n : Int} {cp pos' q : Pos} {op : Operator} {r : R2} (hN : X.N.Nodup) (hi : X.N[i]? = some x) (hx : Loc X.env.scope x) (ho : OpR X (binaryOp op) r) (hb : PE X b tb) (h2 : PSsT X rest u)
    (hs : swapsWith (.BinOp (.Constant (.int n) jc cp) op b q) (some (.Name x pos')) pos.line X.env = pure false := by rfl) (hf : X.fn x = true ∨ X.env.scope.names.lookup x = some .local := by first | exact .inl rfl | exact .inr rfl | assumption) :
    PSs X (.Assign [.Name x pos'] (.BinOp (.Constant (.int n) jc cp) op b q) pos :: rest) (tSeq (tAsg (tOp r (tC (.int n)) tb) (gName i)) u) := ⟨fun pins s σ H D I h => by
  refine wpAny_execs_cons (wpAny_Assign_Name (wpAny_BinOp (wpAny_Constant_int ?_)) hs)
  have n1 : 1 ≤ ({ s with toks := s.toks + 1 } : Shared).toks := Nat.le_add_left 1 s.toks
  refine wpAny_mono (PySem.wpAny_toks_of n1 (hb.run pins _ σ H _ (I.tok _) h)) (fun v s2 ⟨k2, z2, H2, I2, r2, q2⟩ => ?_) fun _ _ z => z.2
  refine wpAny_mono (PySem.wpAny_toks_of k2 (ho pins s2 σ H2 (.int n) z2 (.int n s.toks) v _ I2 ⟨_, rfl⟩ r2 q2)) (fun c s3 ⟨k3, z3, H3, I3, r3, q3⟩ => ?_) fun _ _ z => z.2
  refine wpAny_mono (PySem.wpAny_toks_of k3 (store_ok (Q := fun _ s4 => Inv X pins (σ.set i (some z3)) H3 s4) I3 hN hi hx r3 (fun _ I4 => I4) hf)) (fun _ s4 ⟨k4, I4⟩ => ?_) fun _ _ z => z.2
  exact h2 pins s4 _ H3 D k4 I4 q3⟩
/-- a walk, a token out all along -/
theorem pst_forT {tg iter : Expr} {body : List Stmt} {wi : TI} {g : TG} {tb : TS} (hp : PassesOwn (model X.prog X.w) X.A X.env X.xe) (hc : X.calm = true) (hi : PIT X tg iter wi) (hg : PG X tg g) (hb : PSsT X body tb)
    (hs : ∀ x, foldedSetIterable iter X.env x = pure x := by intro _; rfl) : PST X (.For tg iter body [] pos) (tFor wi g tb) := fun pins s σ H D h0 I h => by
  refine wpAny_For (wpAny_mono (PySem.wpAny_toks_of h0 (hi pins s σ H _ h0 I h)) (fun v s1 ⟨k1, h1⟩ => wpAny_mono (PySem.wpAny_toks_of k1 h1) (fun itv s2 ⟨k2, h2⟩ => ?_) fun _ _ z => z.2) fun _ _ z => z.2) hs
  obtain ⟨it, fp, tn, J, H2, rfl, I2, Tu, w2, fre, W, ⟨m0, w0⟩, turn⟩ := h2
  have fine : ∀ {H' : Hp}, (∀ c ∈ fp, H' c = none) → ∀ c ∈ fp, FpOk X pins H' c := fun hn c hc' => ⟨hn c hc', (fre c hc').2⟩
  refine codeAny_forLoop_any (fun n s' => 1 ≤ s'.toks ∧ ∃ i τ G, Inv X pins τ G s' ∧ tn i s'.heap ∧ (∀ c ∈ fp, G c = none) ∧ W i n τ G) ?_ m0 ⟨k2, 0, σ, H2, I2, w2, fun c hc' => (fre c hc').1, w0⟩
  rintro n s3 ⟨k3, i, τ, G, I3, w3, no3, W3⟩
  rcases turn i n τ G W3 with ⟨stop, fin⟩ | ⟨go, N, less, step⟩
  · refine wpAny_passesOwn hp (thn (Tu.done X rfl rfl rfl hc i pins s3 τ G X.xe I3 (fine no3) w3 stop) fun o s4 ⟨eo, I4⟩ => ?_)
    subst eo
    exact wpAny_execs_nil ⟨τ, G, I4, fin⟩
  · refine wpAny_passesOwn hp (wpAny_mono (PySem.wpAny_toks_of k3 (Tu.item X rfl rfl rfl hc i pins s3 τ G X.xe I3 (fine no3) w3 go)) (fun o s4 ⟨k4, u, eo, h4⟩ => ?_) fun _ _ z => z.2)
    subst eo
    refine wpAny_passesOwn hp (wpAny_mono (PySem.wpAny_toks_of k4 h4) (fun _ s5 ⟨k5, y, G5, I5, r5, y5, w5, no5⟩ => ?_) fun _ _ z => z.2)
    have J5 := I5.pinned (fine no5) (Tu.obj _ _ w5)
    refine wpAny_passesOwn hp (wpAny_mono (PySem.wpAny_toks_of k5 (hg.run _ s5 τ G5 y u _ J5 r5 (step y G5 y5))) (fun _ s6 ⟨k6, τ6, G6, I6, q6⟩ => ?_) fun _ _ z => z.2)
    refine wpAny_passesOwn hp (wpAny_mono (PySem.wpAny_toks_of k6 (hb _ s6 τ6 G6 _ k6 I6 q6)) (fun fl s7 ⟨k7, q7⟩ => ?_) fun _ _ z => z.2)
    have next : ∀ {τ7 : L2.St} {G7 : Hp}, Inv X (pins ++ pinsAt fp s5.heap) τ7 G7 s7 → N τ7 G7 → ∃ m, m < n ∧ (1 ≤ s7.toks ∧ ∃ i τ' G', Inv X pins τ' G' s7 ∧ tn i s7.heap ∧ (∀ c ∈ fp, G' c = none) ∧ W i m τ' G') := by
      intro τ7 G7 I7 n7
      obtain ⟨m', hm, W7⟩ := less τ7 G7 n7
      have at7 : ∀ c ∈ fp, ∀ o, s5.heap.get? c = some o → s7.heap.get? c = some o ∧ G7 c = none := fun c hc' o eo => by
        have z := I7.pin (c, o) (List.mem_append_right _ (List.mem_append_right _ (mem_pinsAt hc' eo)))
        exact ⟨z.1, z.2.1⟩
      refine ⟨m', hm, k7, i + 1, τ7, G7, I7.unpinned, Tu.keep _ _ _ w5 fun c hc' o eo => (at7 c hc' o eo).1, fun c hc' => ?_, W7⟩
      obtain ⟨o, eo, _⟩ := Tu.obj _ _ w5 c hc'
      exact (at7 c hc' o eo).2
    cases fl with
    | ret v => obtain ⟨y7, τ7, G7, I7, r7, q7⟩ := q7; exact ⟨y7, τ7, G7, I7.unpinned, r7, q7⟩
    | brk => obtain ⟨τ7, G7, I7, q7⟩ := q7; exact ⟨τ7, G7, I7.unpinned, q7⟩
    | next => obtain ⟨τ7, G7, I7, n7⟩ := q7; exact next I7 n7
    | cont => obtain ⟨τ7, G7, I7, n7⟩ := q7; exact next I7 n7
/-- e.split(..), the receiver wants a token -/
theorem pet_m1 {o : Expr} {to : TE} {id : String} {name : Str} {apos : Pos} {r : V → List V → Hp → VK → Prop} (slot : Slot "str" name id) (ty : typeOf (.builtin id) = pure (.type "method_descriptor")) (rule : MtR X id r) (ho : PET X o to) (he : PE X e te)
    (hs : starEach [e] X.env = [(false, eval e X.env)] := by rfl) (hbase : attributeBase o name X.env (eval o X.env) = eval o X.env := by rfl) (hline : (apos.endLine == pos.line) = true := by rfl) :
    PET X (.Call (.Attribute o name apos) [e] [] pos) (tM1 r to te) := fun pins s σ H Q h0 I h => by
  refine PySem.Call_method1 hbase hs hline (thn (ho pins s σ H _ h0 I h) fun v s1 ⟨x, H1, I1, r1, q1⟩ => ?_)
  obtain ⟨⟨a, e1⟩, q1⟩ := q1
  subst e1
  have r1' := r1
  obtain ⟨t, e2⟩ := r1
  subst e2
  refine ⟨"str", _, F.plainAttrs_str, slot, ty, typeIs_str _ _ _, (fun _ e => nomatch e), Calls.callWith_builtin rfl (Calls.evalArgs_plain (Calls.spliced_cons ?_))⟩
  refine thn (he.run pins s1 σ H1 _ I1 q1) fun z s2 ⟨y, H2, I2, r2, q2⟩ => Calls.spliced_nil (rule pins s2 σ H2 (.str a) [y] (.str a t) [z] Q I2 ⟨t, rfl⟩ (.cons r2 .nil) q2)
end
end TkO
/-! t += u of tuples; += of lists of one's own and of texts; replace, split -/
namespace L2
open PySem PySem.Spec PyProof.Rows HT
theorem no_iadd_tuple : typeLookup (.type "tuple") (dunderI "add") = pure none := by kernel_rfl
section
variable {X : Cx}
theorem iop_catA : OpR X (inplaceOp .Add) (rCatA X.K) := by
  intro pins s σ H x y v u Q I rx ry h
  obtain ⟨a, b, xs, ys, rfl, rfl, ha, hb, hz, q0, q1, q2⟩ := h
  cases rx
  cases ry
  obtain ⟨its, r1, p1, _⟩ := I.tuple ha
  obtain ⟨its2, r2, p2, _⟩ := I.tuple hb
  obtain ⟨⟨c1, d1, data, sl1⟩, o1, k1, n1, e1⟩ := id p1
  obtain ⟨⟨c2, d2, data2, sl2⟩, o2, k2, n2, e2⟩ := id p2
  simp only at k1 e1 k2 e2
  subst k1 e1 k2 e2
  have l1 := r1.length
  have l2 := r2.length
  by_cases hv : its = []
  · exact wpAny_inplaceOp_concat ⟨_, o1, rfl⟩ ⟨_, o2, rfl⟩ no_iadd_tuple noFill_tuple_add seq_tuple_add (call_meets PySem.F.slot_tuple_add ⟨_, o1, rfl⟩ PySem.F.entry_tuple_add (PySem.F.args_tuple_add_2 _ _)
      (tuple_addW0 a b its.toArray its2.toArray n1 n2 d1 d2 sl1 sl2 (by simp [hv])) ⟨o1, o2, ⟨.ref b, H, I, rfl, q0 (List.length_eq_zero_iff.mp (by rw [l1, hv]; rfl))⟩⟩)
  · have hx : xs ≠ [] := fun z => hv (List.length_eq_zero_iff.mp (by rw [← l1, z]; rfl))
    by_cases hw : its2 = []
    · exact wpAny_inplaceOp_concat ⟨_, o1, rfl⟩ ⟨_, o2, rfl⟩ no_iadd_tuple noFill_tuple_add seq_tuple_add (call_meets PySem.F.slot_tuple_add ⟨_, o1, rfl⟩ PySem.F.entry_tuple_add (PySem.F.args_tuple_add_2 _ _)
        (tuple_addW1 a b its.toArray its2.toArray n1 n2 d1 d2 sl1 sl2 (by simpa using hv) (by simp [hw])) ⟨o1, o2, ⟨.ref a, H, I, rfl, q1 hx (List.length_eq_zero_iff.mp (by rw [l2, hw]; rfl))⟩⟩)
    · have hy : ys ≠ [] := fun z => hw (List.length_eq_zero_iff.mp (by rw [← l2, z]; rfl))
      refine wpAny_inplaceOp_concat ⟨_, o1, rfl⟩ ⟨_, o2, rfl⟩ no_iadd_tuple noFill_tuple_add seq_tuple_add (call_meets PySem.F.slot_tuple_add ⟨_, o1, rfl⟩ PySem.F.entry_tuple_add (PySem.F.args_tuple_add_2 _ _)
        (tuple_addW2 a b its.toArray its2.toArray n1 n2 d1 d2 sl1 sl2 (by simpa using hv) (by simpa using hw) (by rw [List.size_toArray, List.size_toArray, ← l1, ← l2]; exact hz)) ⟨o1, o2, ?_⟩)
      have e : its.toArray ++ its2.toArray = (its ++ its2).toArray := by simp
      rw [e]
      refine ⟨.ref s.heap.objs.size, _, I.laid (t' := s.toks) (o := .tup (xs ++ ys)) (fun b ob q => Heap.get?_push_of_some _ q) (Nat.le_refl _) ?_, rfl, q2 hx hy _ (I.hok.fresh (Nat.le_refl _))⟩
      exact ⟨by rw [List.length_append]; exact hz, _, r1.append r2, IsTup.new _ _⟩
end
end L2
namespace TkO
open PySem PySem.Spec PyProof.Rows L2
theorem pit_of {X : Cx} {tg iter : Expr} {wi : TI} (h : PI X tg iter wi) : PIT X tg iter wi := fun pins s σ H R _ I q => h.run pins s σ H R I q
theorem units70 {k : Nat} {A : Around} (h : Room k A) : A.units + 70 < cLine := by
  have := h.un
  omega
/-- a def with a token out, by its body -/
theorem okT {P : Program} {w : World} {K : PySem.W.Frag} {mg : Str → Option Value} {base : Heap} {x qual : Str} {st : Stmt} {f : Addr} {fd : FuncData} {N ps : List Str} {k : Nat} {sp : Sp} (F : Fun K x qual st f fd) (S : FnScope N ps (defScope st)) (len : ∀ vs H Q E, sp vs H Q E → vs.length = ps.length)
    (hbody : ∀ (cdv : Value) (A : Around) (outer : List Env) (s : Shared) (H : Hp) (vs : List V) (Q : VK) (E : XK), Room k (A.deeper (envOfC qual (defScope st) s.heap.objs.size f cdv)) → sp vs H Q E →
      ∃ t, PSsT (cxOf (L2.CX P w) P w K mg base N qual (defScope st) f cdv A outer s H E) (defBody st) t ∧ t { nx := fun _ H' => Q .non H', rt := Q } (start N vs) H) : FnT P w K mg base (L2.CX P w) (k + 1) f fd ps sp := by
  obtain ⟨oc, od, kV, doc, pm, an, cdv, ct, osl, e, lk, hcd⟩ := F.ex
  subst e
  exact fnT_of lk hcd S len fun A outer s H vs Q E hr hsp => hbody cdv A outer s H vs Q E hr hsp
end TkO
namespace DL
open PySem PySem.Spec PyProof.Rows L2 CwR
section
variable {T : Tb} {K : PySem.W.Frag} {E : XK} {g g' g2 : G} {r r' r1 r2 r3 : Rs} {ta tb tc te tl : TE} {t : TT} {x y z d : D} {ds es xs : List D} {tas : TA} {f : R2} {O O' : Out} {s1 s2 ts tu : TS} {i j k : Nat} {tg : TG} {C : Addr} {is : List Nat}
/-- name op= e, by data -/
theorem st_augD {ti : TIp} (hx : g[i]? = some (some x)) (h : Ev T K te g r y r1) (ho : OpD T K ti x y g r1 d r2) (h2 : O.nx (g.set i (some d)) r2) : StD T K E (tAug i te ti) g r O := fun rf Hs H σ s En G => by
  obtain ⟨v, a1, a2⟩ := s.sl i _ hx
  exact ⟨_, a1, h rf Hs H σ s _ fun u Hs1 H1 e s' ru => ho rf Hs1 H1 σ v u s' (DR.mono e x a2) ru _ fun w Hs2 H2 e2 s2 rw' => G.nx _ _ _ _ _ h2 (e.trans e2) (s2.set rw' i)⟩
theorem sq_augD {ti : TIp} (hx : g[i]? = some (some x)) (h : Ev T K te g r y r1) (ho : OpD T K ti x y g r1 d r2) (h2 : StD T K E ts (g.set i (some d)) r2 O) : StD T K E (tSeq (tAug i te ti) ts) g r O := fun rf Hs H σ s En G => by
  obtain ⟨v, a1, a2⟩ := s.sl i _ hx
  exact ⟨_, a1, h rf Hs H σ s _ fun u Hs1 H1 e s' ru => ho rf Hs1 H1 σ v u s' (DR.mono e x a2) ru _ fun w Hs2 H2 e2 s2 rw' => h2 rf Hs2 H2 _ (s2.set rw' i) En (G.ext (e.trans e2))⟩
theorem od_addS {m n : Str} (hl : m.length + n.length ≤ 100000) : OpD T K (fun x y H Q => ∃ i j, x = .str i ∧ y = .str j ∧ i.length + j.length ≤ sizeLine ∧ Q (.str (i ++ j)) H) (.str m) (.str n) g r (.str (m ++ n)) r := fun rf Hs H σ u v s ru rv Q q => by
  cases ru
  cases rv
  exact ⟨m, n, rfl, rfl, Evl.sz_of hl, q _ _ _ (Ext.refl _) s (.str _)⟩
/-- xs += ys, xs one's own -/
theorem od_ext {p : Addr} (j : Nat) (hj : r[j]? = some (rl p ds)) (hv : Vl y r es) (hl : ds.length + es.length ≤ 100000) : OpD T K rExt2 (.ref p) y g r (.ref p) (r.set j (rl p (ds ++ es))) := fun rf Hs H σ u v s ru rv Q q => by
  cases ru
  obtain ⟨ys, h1, h2⟩ := s.rs _ (List.mem_append_left _ (List.mem_of_getElem? hj))
  obtain ⟨b, zs, rfl, b1, b2⟩ := hv.at s rv
  exact ⟨p, b, ys, zs, rfl, rfl, h1, b1, by rw [h2.length, b2.length]; exact Evl.sz_of hl, q _ _ _ (Ext.refl _) (s.turn hj (h2.append b2)) (.ref p)⟩
theorem ev_repl {y z a : Str} (h : Ev T K te g r (.str a) r1) (hb : a.length + (a.length + 1) * z.length ≤ 16777216) : Ev T K (tReplC te y z) g r (.str (Txt.replace a y z)) r1 := fun rf Hs H σ s Q q => h rf Hs H σ s _ fun v Hs1 H1 e s1 rv => by
  cases rv
  exact ⟨a, rfl, hb, q _ _ _ e s1 (.str _)⟩
theorem en_split {a b : Str} (h : Ev T K ta g r (.str a) r1) (h2 : Ev T K tb g r1 (.str b) r2) (hb : (b.length == 0) = false) (hl : a.length + 2 ≤ 100000) :
    EvN T K (tM1 (fun x xs H Q => ∃ a b, x = .str a ∧ xs = [.str b] ∧ (b.length == 0) = false ∧ a.length + 2 ≤ sizeLine ∧ rNewStrs (Txt.split a b) H Q) ta tb) g r ((Txt.split a b).map D.str) r2 := fun rf Hs H σ s Q q => h rf Hs H σ s _ fun v Hs1 H1 e s1 rv => by
  cases rv
  refine ⟨⟨a, rfl⟩, h2 rf Hs1 H1 σ s1 _ fun u Hs2 H2 e2 s2 ru => ?_⟩
  cases ru
  exact ⟨a, b, rfl, rfl, hb, Evl.sz_of hl, fun p hp => q p Hs2 _ (e.trans e2) (s2.own (o := .lst _) hp True.intro (x := rl p _) rfl ⟨_, upd_same, DRs.strs _⟩)⟩
/-- a list of one's own is walked: the walk leaves it -/
theorem ei_new {tl : TE} (h : EvN T K tl g r ds r1) : EvI T K (iList K tl) g r ds r1 := ei_lst h.ev
theorem en_rev (h : Ev T K te g r x r1) (hv : Vl x r1 ds) : EvN T K (tRevL K te) g r ds.reverse r1 := fun rf Hs H σ s Q q => h rf Hs H σ s _ fun v Hs1 H1 e s1 rv => by
  obtain ⟨a, xs, rfl, a1, a2⟩ := hv.at s1 rv
  exact ⟨a, xs, rfl, Evl.sq_of a1, fun p hp => q p Hs1 _ e (s1.own (o := .lst _) hp True.intro (x := rl p _) rfl ⟨_, upd_same, a2.reverse⟩)⟩
/-- the last item -/
theorem atI_last {α : Type} {xs : List α} {v : α} (h : xs[xs.length - 1]? = some v) : atI xs (-1) = some v := by
  have hl : xs.length - 1 < xs.length := (List.getElem?_eq_some_iff.mp h).1
  unfold atI
  have : ixN xs.length (-1) = some (xs.length - 1) := by
    first
      | (unfold ixN; split <;> first | omega | (split <;> first | omega | (congr 1; omega)))
      | (unfold ixN; simp; omega)
  rw [this]
  exact h
theorem od_lastRow {l : List Int} (h : l ≠ []) : OpD T K (rIxT K) (rowD l) (.int (-1)) g r (.int (l.getD (l.length - 1) 0)) r := od_ixT (atI_last (by
  have := List.length_pos_iff.mpr h
  have hlt : l.length - 1 < l.length := by omega
  rw [List.length_map, List.getElem?_map, List.getElem?_eq_getElem hlt]
  simp [List.getD_eq_getElem?_getD, List.getElem?_eq_getElem hlt]))
end
end DL
namespace DL
open PySem PySem.Spec PyProof.Rows L2
section
variable {T : Tb} {K : PySem.W.Frag} {g : G} {r : Rs}
theorem od_nin1 {c : Nat} {z : Str} : OpD T K (fun x y H Q => ∃ (c : Nat) (z : Str), x = .str ⟨#[c]⟩ ∧ y = .str z ∧ Q (.bl (!decide (c ∈ z.cps.toList))) H) (.str ⟨#[c]⟩) (.str z) g r (.bl (!decide (c ∈ z.cps.toList))) r := fun rf Hs H σ u v s ru rv Q q => by
  cases ru
  cases rv
  exact ⟨c, z, rfl, rfl, q _ _ _ (Ext.refl _) s (.bl _)⟩
theorem od_in1 {c : Nat} {z : Str} : OpD T K (fun x y H Q => ∃ (c : Nat) (z : Str), x = .str ⟨#[c]⟩ ∧ y = .str z ∧ Q (.bl (decide (c ∈ z.cps.toList))) H) (.str ⟨#[c]⟩) (.str z) g r (.bl (decide (c ∈ z.cps.toList))) r := fun rf Hs H σ u v s ru rv Q q => by
  cases ru
  cases rv
  exact ⟨c, z, rfl, rfl, q _ _ _ (Ext.refl _) s (.bl _)⟩
end
end DL
/-! what raises within: arguments -/
namespace DL
open PySem PySem.Spec PyProof.Rows L2
/-- arguments, one of which raises -/
def EvXA (T : Tb) (K : PySem.W.Frag) (E : XK) (ta : TA) (g : G) (r : Rs) (C : Addr) (r' : Rs) : Prop := ∀ (rf : Rs) (Hs H : Hp) (σ : L2.St), SR T K Hs H σ g (r ++ rf) → ∀ Q : List V → Hp → Prop,
  (∀ Hs' H', Ext T Hs Hs' → SR T K Hs' H' σ g (r' ++ rf) → E (.ref C) none H') → ta σ H Q
section
variable {T : Tb} {K : PySem.W.Frag} {E : XK} {g g' g2 : G} {r r' r1 r2 r3 : Rs} {ta tb tc te tl : TE} {t u : TT} {x y z d : D} {ds es xs : List D} {tas : TA} {f : R2} {O O' : Out} {s1 s2 ts tu : TS} {i j k : Nat} {tg : TG} {C : Addr} {is : List Nat}
theorem xa_head (h : EvX T K E te g r C r1) : EvXA T K E (tCons te tas) g r C r1 := fun rf Hs H σ s Q q => h rf Hs H σ s _ fun Hs1 H1 e s1 => q Hs1 H1 e s1
theorem xa_tail (h1 : Ev T K te g r x r1) (h : EvXA T K E tas g r1 C r2) : EvXA T K E (tCons te tas) g r C r2 := fun rf Hs H σ s Q q => h1 rf Hs H σ s _ fun v Hs1 H1 e s1 rv => h rf Hs1 H1 σ s1 _ fun Hs2 H2 e2 s2 => q Hs2 H2 (e.trans e2) s2
theorem ex_callA {sp : Sp} (h : EvXA T K E tas g r C r1) : EvX T K E (tCall sp [] E tas) g r C r1 := fun rf Hs H σ s Q q => h rf Hs H σ s _ fun Hs1 H1 e s1 => q Hs1 H1 e s1
theorem ex_cbA {h' : List V → Hp → VK → Prop} (h : EvXA T K E tas g r C r1) : EvX T K E (tCB h' tas) g r C r1 := fun rf Hs H σ s Q q => h rf Hs H σ s _ fun Hs1 H1 e s1 => q Hs1 H1 e s1
theorem ex_tup (h : EvXA T K E tas g r C r1) : EvX T K E (tTup tas) g r C r1 := fun rf Hs H σ s Q q => h rf Hs H σ s _ fun Hs1 H1 e s1 => q Hs1 H1 e s1
theorem ex_lst (h : EvXA T K E tas g r C r1) : EvX T K E (tLst tas) g r C r1 := fun rf Hs H σ s Q q => h rf Hs H σ s _ fun Hs1 H1 e s1 => q Hs1 H1 e s1
theorem ex_append {p : Addr} {ds0 : List D} (j : Nat) (h0 : Ev T K ta g r (.ref p) r1) (hj0 : r1[j]? = some (rl p ds0)) (h : EvXA T K E tas g r1 C r2) : EvX T K E (tBM K "list" rAppend ta tas) g r C r2 := fun rf Hs H σ s Q q =>
  h0 rf Hs H σ s _ fun v Hs1 H1 e1 s1 rv => by
    cases rv
    exact ⟨ty_own s1 hj0, h rf Hs1 H1 σ s1 _ fun Hs2 H2 e2 s2 => q Hs2 H2 (e1.trans e2) s2⟩
theorem ex_thn {k : V → Hp → VK → Prop} (h : EvX T K E ta g r C r1) : EvX T K E (tThen ta k) g r C r1 := fun rf Hs H σ s Q q => h rf Hs H σ s _ fun Hs1 H1 e s1 => q Hs1 H1 e s1
/-- what is given up behind -/
theorem ex_cut (h : EvX T K E te g r C (r1 ++ r2)) : EvX T K E te g r C r2 := fun rf Hs H σ s Q q => h rf Hs H σ s Q fun Hs1 H1 e s1 => q Hs1 H1 e (SR.cut (r1 := r1) (by rw [← List.append_assoc]; exact s1))
theorem ex_cutA (h : EvX T K E te g r C r1) : EvX T K E te g r C [] := fun rf Hs H σ s Q q => h rf Hs H σ s Q fun Hs1 H1 e s1 => q Hs1 H1 e (SR.cut (r1 := r1) (r2 := []) s1)
/-- the loop's list raises -/
theorem st_exForL (h : EvX T K E te g r C r1) (h2 : O.ex C r1) : StD T K E (tFor (iList K te) tg tu) g r O := fun rf Hs H σ s En G => h rf Hs H σ s _ fun Hs1 H1 e s' => G.ex C _ _ _ _ _ h2 e s'
/-- an outcome with resources that do not matter -/
theorem st_exP {O : Out} (hO : ∀ C r, O.ex C [] → O.ex C r) (h : EvX T K E te g r C r1) (h2 : O.ex C []) : StD T K E (tDrop te) g r O := st_exE h (hO _ _ h2)
end
end DL
/-! enumerate of a list -/
namespace DL
open PySem PySem.Spec PyProof.Rows L2
def enumD (ds : List D) : List D := (List.range ds.length).map fun (i : Nat) => D.tup [.int (i : Int), ds.getD i .non]
theorem enumD_get {ds : List D} {i : Nat} {d : D} (h : (enumD ds)[i]? = some d) : ∃ x, ds[i]? = some x ∧ d = .tup [.int (i : Int), x] := by
  unfold enumD at h
  rw [List.getElem?_map] at h
  cases q : (List.range ds.length)[i]? with
  | none => rw [q] at h; cases h
  | some j =>
    rw [q] at h
    obtain ⟨h1, h2⟩ := List.getElem?_eq_some_iff.mp q
    rw [List.getElem_range] at h2
    rw [List.length_range] at h1
    subst h2
    cases h
    refine ⟨ds[i], List.getElem?_eq_getElem h1, ?_⟩
    simp [List.getD_eq_getElem?_getD, List.getElem?_eq_getElem h1]
theorem enumD_len (ds : List D) : (enumD ds).length = ds.length := by simp [enumD]
section
variable {T : Tb} {K : PySem.W.Frag} {E : XK} {g : G} {r r1 : Rs} {tas : TA} {ds : List D}
theorem ei_enum (h : EvA T K tas g r [.lst ds] r1) : EvI T K (iEnum K tas) g r (enumD ds) r1 := fun rf Hs H σ s R q => h rf Hs H σ s _ fun vs Hs1 H1 e s1 rvs => by
  obtain ⟨v, rfl, rv⟩ := rvs.one
  cases rv with
  | @lst a xs _ h1 h2 =>
    have hq : ∀ {Hs' H' : Hp}, Ext T Hs1 Hs' → Ext T Hs' H' → SqL K H' a xs := fun e1 e2 => Evl.sq_of (e2.keep _ _ (e1.keep _ _ h1 (fun _ z => nomatch z)) (fun _ z => nomatch z))
    refine ⟨a, xs, rfl, hq (Ext.refl _) s1.ex, q _ _ _ e s1 fun i Hs' H' e1 e2 => ⟨fun hl => ⟨xs, hq e1 e2, by rw [enumD_len] at hl; rw [h2.length]; exact hl⟩, fun d hd => ?_⟩⟩
    obtain ⟨x, hx, rfl⟩ := enumD_get hd
    obtain ⟨v, a1, a2⟩ := h2.get hx
    refine ⟨⟨xs, v, hq e1 e2, a1⟩, fun v' H2 y => ?_⟩
    obtain ⟨p, u, rfl, hp, rfl, y1⟩ := y
    have z1 := y1 xs (hq e1 e2)
    rw [a1] at z1
    cases z1
    have hp0 : Hs' p = none := e2.back hp
    have e3 : Ext T Hs' (upd Hs' p (.tup [.int (i : Nat), v])) := Ext.new hp0
    exact ⟨_, e3, .tup (Evl.st_of upd_same) (.cons (.int _) (.cons (DR.mono (e1.trans e3) _ a2) .nil)), fun σ g r s => (s.alloc (o := .tup [.int (i : Nat), v]) hp True.intro).1⟩
/-- a, b from a pair -/
theorem eg_two {i j : Nat} {x y : D} : EvG T K (gTup K 2 (gCons (gName i) (gCons (gName j) gNil))) [i, j] (.tup [x, y]) g ((g.set i (some x)).set j (some y)) := eg_tup (egs_cons eg_name (egs_cons eg_name egs_nil)) rfl
end
end DL
namespace DL
open PySem PySem.Spec PyProof.Rows L2
theorem eq_nil (ds : List D) : eqD (.lst ds) (.lst []) = decide (ds = []) := by
  cases ds with
  | nil => rfl
  | cons d ds =>
    show PyData.eqv (.list (toPy d :: toPys ds)) (.list []) = _
    simp [PyData.eqv, PyData.eqvAll]
theorem eq_nilT (ds : List D) : eqD (.tup ds) (.tup []) = decide (ds = []) := by
  cases ds with
  | nil => rfl
  | cons d ds =>
    show PyData.eqv (.tuple (toPy d :: toPys ds)) (.tuple []) = _
    simp [PyData.eqv, PyData.eqvAll]
end DL
namespace DL
open PySem PySem.Spec PyProof.Rows L2
theorem od_of_eq {T : Tb} {K : PySem.W.Frag} {g : G} {r r' : Rs} {x y d d' : D} {f : R2} (h : OpD T K f x y g r d r') (e : d = d') : OpD T K f x y g r d' r' := e ▸ h
end DL
namespace Bs
open PySem PySem.Spec PyProof.Rows L2 DL
/-! ### the dice -/
abbrev S3 := Int × Int × Int
abbrev diceD (s : S3) : List D := [.int s.1, .int s.2.1, .int s.2.2]
def diceV (c : Int) : S3 := if -10 < c ∧ c < 10 then (if c < 0 then -c else c, 0, 2) else (c, 1 + c % 1009, if 10 ^ 18 ≤ c then 1 else 0)
def rollC (s : S3) : Prop := s.2.2 = 2 ∨ (s.2.2 = 1 ∧ 0 < s.1)
instance (s : S3) : Decidable (rollC s) := by unfold rollC; exact inferInstance
def rollA (s : S3) : Int := (s.1 * 48271 + s.2.1 * 69621 + 11) % 2147483647
def rollV (s : S3) (m : Int) : Int := if rollC s then s.1 % m else (rollA s / 7) % m
def rollD (s : S3) (m : Int) : S3 := if rollC s then (s.1 / m, s.2.1, s.2.2) else (rollA s, s.2.1 + 1, 0)
theorem rollV_lt {s : S3} {m : Int} (h : 0 < m) : 0 ≤ rollV s m ∧ rollV s m < m := by
  unfold rollV
  split
  · exact ⟨Int.emod_nonneg _ (by omega), Int.emod_lt_of_pos _ h⟩
  · exact ⟨Int.emod_nonneg _ (by omega), Int.emod_lt_of_pos _ h⟩
def R_dice : Rel := fun ds r o => ∃ c : Int, ds = [.int c] ∧ r = [] ∧ o = ⟨fun x y => ∃ p, x = .ref p ∧ y = [rl p (diceD (diceV c))], fun _ _ => False⟩
def R_roll : Rel := fun ds r o => ∃ (p : Addr) (s : S3) (m : Int), 1 ≤ m ∧ m ≤ 1000 ∧ ds = [.ref p, .int m] ∧ r = [rl p (diceD s)] ∧ o = .one (.int (rollV s m)) [rl p (diceD (rollD s m))]
def R_rounds2 : Rel := fun ds r o => ∃ ns : List Int, ds = [.lsq (ns.map D.int), .int 1] ∧ r = [] ∧ o = ⟨fun x y => ∃ p s, x = .lst [.ref p] ∧ y = [rl p (diceD s)], fun _ _ => False⟩
theorem ints_app (a b : List Int) : a.map D.int ++ b.map D.int = (a ++ b).map D.int := by rw [List.map_append]
theorem vd_il {p : Addr} {l : List Int} {r : Rs} (j : Nat) (h : r[j]? = some (rl p (l.map D.int))) : Vd (.ref p) r (.lst (l.map D.int)) := vd_o j h
theorem sh_il (l : List Int) : sh (.lst (l.map D.int)) = true := by
  unfold sh
  simp [pl, dep, pl_ints, dep_ints]
theorem eq_il (a b : List Int) : eqD (.lst (a.map D.int)) (.lst (b.map D.int)) = decide (a = b) := by
  rw [Bool.eq_iff_iff, eqD_iff (by simp [nb, nb_ints]) (by simp [nb, nb_ints]), decide_eq_true_eq]
  constructor
  · intro h
    injection h with h
    exact ints_inj h
  · intro h
    rw [h]
theorem nbs_rows (l : List (List Int)) : nbs (l.map rowD) = true := by
  induction l with
  | nil => rfl
  | cons a l ih => simp [nbs, nb, nb_ints, ih]
theorem pls_rows (l : List (List Int)) : pls (l.map rowD) = true := by
  induction l with
  | nil => rfl
  | cons a l ih => simp [pls, pl, pl_ints, ih]
theorem deps_rows (l : List (List Int)) : deps (l.map rowD) ≤ 1 := by
  induction l with
  | nil => simp [deps]
  | cons a l ih => simp [deps, dep, dep_ints]; omega
theorem sh_rows (l : List (List Int)) : sh (.lst (l.map rowD)) = true := by
  unfold sh
  have := deps_rows l
  simp [pl, dep, pls_rows]
  omega
theorem sh_rowsT (l : List (List Int)) : sh (.tup (l.map rowD)) = true := by
  unfold sh
  have := deps_rows l
  simp [pl, dep, pls_rows]
  omega
theorem rows_inj {a b : List (List Int)} (h : a.map rowD = b.map rowD) : a = b := by
  induction a generalizing b with
  | nil => cases b with
    | nil => rfl
    | cons _ _ => simp at h
  | cons x a ih => cases b with
    | nil => simp at h
    | cons y b =>
      rw [List.map_cons, List.map_cons] at h
      injection h with h1 h2
      injection h1 with h1
      rw [ints_inj h1, ih h2]
theorem eq_rows (a b : List (List Int)) : eqD (.lst (a.map rowD)) (.lst (b.map rowD)) = decide (a = b) := by
  rw [Bool.eq_iff_iff, eqD_iff (by simp [nb, nbs_rows]) (by simp [nb, nbs_rows]), decide_eq_true_eq]
  constructor
  · intro h
    injection h with h
    exact rows_inj h
  · intro h
    rw [h]
theorem eq_rowsT (a b : List (List Int)) : eqD (.tup (a.map rowD)) (.tup (b.map rowD)) = decide (a = b) := by
  rw [Bool.eq_iff_iff, eqD_iff (by simp [nb, nbs_rows]) (by simp [nb, nbs_rows]), decide_eq_true_eq]
  constructor
  · intro h
    injection h with h
    exact rows_inj h
  · intro h
    rw [h]
end Bs
namespace Bs
open DL
/-- the places that a change may hold -/
def endsOf (n : Nat) (p : List Int) : List Int := 0 :: p ++ [(n : Int) + 1]
def okP (n : Nat) (p : List Int) : Prop := (3 ≤ n ∧ n ≤ 12) ∧ (∀ x ∈ p, 1 ≤ x ∧ x ≤ n) ∧ ∀ q ∈ (endsOf n p).zip ((endsOf n p).drop 1), q.1 < q.2 ∧ (q.2 - q.1) % 2 ≠ 0
instance (n : Nat) (p : List Int) : Decidable (okP n p) := by unfold okP; exact inferInstance
/-! plain: what a change makes -/
/-- from the place k on (counted from 0) -/
def chgL (p : List Int) : Nat → List Int → List Int
  | _, [] => []
  | k, [a] => [a]
  | k, a :: b :: rest => if ((k : Int) + 1) ∈ p then a :: chgL p (k + 1) (b :: rest) else b :: a :: chgL p (k + 2) rest
  termination_by _ l => l.length
def chg (p row : List Int) : List Int := chgL p 0 row
/-- the ends behind a -/
def okE (n : Nat) : Int → List Int → Prop
  | a, [] => a < (n : Int) + 1 ∧ ((n : Int) + 1 - a) % 2 ≠ 0
  | a, b :: p => (a < b ∧ (b - a) % 2 ≠ 0) ∧ okE n b p
theorem okE_of {n : Nat} : ∀ {a : Int} {p : List Int}, (∀ q ∈ (a :: p ++ [(n : Int) + 1]).zip ((a :: p ++ [(n : Int) + 1]).drop 1), q.1 < q.2 ∧ (q.2 - q.1) % 2 ≠ 0) → okE n a p
  | a, [], h => h (a, (n : Int) + 1) (by simp)
  | a, b :: p, h => ⟨h (a, b) (by simp), okE_of fun q hq => h q (by
      simp only [List.cons_append, List.drop_succ_cons, List.drop_zero, List.zip_cons_cons] at hq ⊢
      exact List.mem_cons_of_mem _ hq)⟩
/-- k is reached: the ends behind it are p', the last one a is an even way off -/
def al (n : Nat) (p : List Int) (k : Nat) : Prop := ∃ (pre p' : List Int) (a : Int), p = pre ++ p' ∧ (∀ x ∈ pre, x ≤ a) ∧ a ≤ k ∧ ((k : Int) - a) % 2 = 0 ∧ okE n a p' ∧ (k : Int) + 1 ≤ p'.headD ((n : Int) + 1)
theorem okE_lt {n : Nat} : ∀ {a : Int} {p : List Int}, okE n a p → ∀ x ∈ p, a < x
  | a, [], _, x, hx => by cases hx
  | a, b :: p, h, x, hx => by
    rcases List.mem_cons.mp hx with e | e
    · rw [e]; exact h.1.1
    · exact Int.lt_trans h.1.1 (okE_lt h.2 x e)
theorem al_0 {n : Nat} {p : List Int} (h : okP n p) : al n p 0 := by
  have h2 : okE n 0 p := okE_of h.2.2
  refine ⟨[], p, 0, rfl, (by simp), by decide, by decide, h2, ?_⟩
  cases p with
  | nil => simp; omega
  | cons b p =>
    have := h2.1.1
    simp
    omega
/-- a place that stays, or two that cross -/
theorem al_step {n : Nat} {p : List Int} {k : Nat} (h : al n p k) (hk : k < n) : (((k : Int) + 1) ∈ p → al n p (k + 1)) ∧ (((k : Int) + 1) ∉ p → k + 1 < n ∧ al n p (k + 2)) := by
  obtain ⟨pre, p', a, rfl, h1, h2, h3, h4, h5⟩ := h
  cases p' with
  | nil =>
    obtain ⟨h6, h7⟩ := h4
    refine ⟨fun hm => ?_, fun hm => ?_⟩
    · have := h1 _ (by simpa using hm)
      omega
    · refine ⟨by omega, pre, [], a, rfl, h1, by omega, by omega, ⟨h6, h7⟩, ?_⟩
      simp
      omega
  | cons b p' =>
    obtain ⟨⟨h6, h7⟩, h8⟩ := h4
    simp at h5
    have hgt := okE_lt h8
    have hb : b ≤ n := by
      have key : ∀ (b : Int) (p : List Int), okE n b p → b < (n : Int) + 1 := by
        intro b p
        induction p generalizing b with
        | nil => intro h; exact h.1
        | cons c p ih => intro h; exact Int.lt_trans h.1.1 (ih c h.2)
      have := key b p' h8
      omega
    by_cases e : b = (k : Int) + 1
    · subst e
      refine ⟨fun _ => ?_, fun hm => (hm (by simp)).elim⟩
      refine ⟨pre ++ [(k : Int) + 1], p', (k : Int) + 1, by simp, fun x hx => ?_, by omega, by omega, h8, ?_⟩
      · rcases List.mem_append.mp hx with z | z
        · have := h1 x z
          omega
        · simp at z
          omega
      · cases p' with
        | nil => simp; omega
        | cons c p' =>
          have := hgt c (by simp)
          simp
          omega
    · have hn : ((k : Int) + 1) ∉ pre ++ b :: p' := fun hm => by
        rcases List.mem_append.mp hm with z | z
        · have := h1 _ z
          omega
        · rcases List.mem_cons.mp z with z | z
          · exact e z.symm
          · have := hgt _ z
            omega
      refine ⟨fun hm => (hn hm).elim, fun _ => ⟨by omega, pre, b :: p', a, rfl, h1, by omega, by omega, ⟨⟨h6, h7⟩, h8⟩, ?_⟩⟩
      simp
      omega
theorem drop_at {l : List Int} {k : Nat} (h : k < l.length) : l.drop k = l.getD k 0 :: l.drop (k + 1) := by
  rw [List.drop_eq_getElem_cons h, List.getD_eq_getElem?_getD, List.getElem?_eq_getElem h]
  rfl
theorem chgL_in {p l : List Int} {k : Nat} (h : k < l.length) (hm : ((k : Int) + 1) ∈ p) : chgL p k (l.drop k) = l.getD k 0 :: chgL p (k + 1) (l.drop (k + 1)) := by
  rw [drop_at h]
  by_cases h2 : k + 1 < l.length
  · rw [drop_at h2, chgL, if_pos hm]
  · rw [List.drop_eq_nil_of_le (by omega), chgL, chgL]
theorem chgL_out {p l : List Int} {k : Nat} (h : k + 1 < l.length) (hm : ((k : Int) + 1) ∉ p) : chgL p k (l.drop k) = l.getD (k + 1) 0 :: l.getD k 0 :: chgL p (k + 2) (l.drop (k + 2)) := by
  rw [drop_at (by omega), drop_at h, chgL, if_neg hm]
end Bs
namespace TkO
open PySem PySem.Spec PyProof.Rows L2 CwR
section
variable {X : Cx} {CX : CXT} {k jc : Nat} {f : Addr} {fd : FuncData} {ps : List Str} {sp : Sp} {E : XK} {ds : List Value} {dvs : List V} {x y : Str} {es : List Expr} {p pos cp : Pos} {t : TA}
/-- the call of a def that wants a token out, its first argument a written text -/
theorem pe_callTS (F : FnT X.prog X.w X.K X.mg X.base CX k f fd ps sp) (hr : Room k X.A) (hg : Gl X x) (hm : X.mg x = some (.ref f)) (hk : PySem.W.keepIn X.K (.ref f) = true) (hb : Binds X.K fd ps ds) (hd : Vals dvs ds) (hx : Passes CX X E)
    (ha : PA X es t) (hdb : (x == ("__debug__" : Str)) = false := by decide) (he : starEach (.Constant (.str y) jc cp :: es) X.env = (false, eval (.Constant (.str y) jc cp) X.env) :: starEach es X.env := by rfl) (hpl : (backTo pos (starEach es X.env)).any (·.1) = false := by rfl) :
    PE X (.Call (.Name x p) (.Constant (.str y) jc cp :: es) [] pos) (tCall sp dvs E (tCons (tC (.str y)) t)) := ⟨fun pins s σ H Q I h => by
  refine wpAny_Call_Name_kw (ld_glob I hg hm ?_ hdb)
  refine PySem.W.callWith_K (h₀ := X.base) (e := .Constant (.str y) jc cp) (rest := es) I.ok.mod.kin hk ?_ he hpl
  rw [he]
  show wpAny _ _ (spliced ((false, eval (.Constant (.str y) jc cp) X.env) :: backTo pos (starEach es X.env))) _ _ s
  refine Calls.spliced_cons (Calls.Constant_str ?_)
  have n1 : 1 ≤ ({ s with toks := s.toks + 1 } : Shared).toks := Nat.le_add_left 1 s.toks
  refine wpAny_mono (PySem.wpAny_toks_of n1 (ha.run pos pins _ σ H _ (I.tok _) h)) (fun us s1 ⟨tk, vs, H1, I1, r, q⟩ => ⟨I1.kIn, ?_⟩) fun _ _ z => z.2
  have r0 : Vals (V.str y :: vs) (Value.str y s.toks :: us) := .cons ⟨_, rfl⟩ r
  have r2 : Vals ((V.str y :: vs) ++ dvs) ((Value.str y s.toks :: us) ++ ds) := r0.append hd
  have hl : ((Value.str y s.toks :: us) ++ ds).length = ps.length := by
    rw [← r2.length]
    exact F.len _ _ _ _ q
  refine wpAny_call (codeAny_mono (F.run X.A X.stack s1 H1 ⟨Value.str y s.toks :: us, []⟩ ((Value.str y s.toks :: us) ++ ds) ((V.str y :: vs) ++ dvs) Q E tk hr I1.env0 (hb s1 (Value.str y s.toks :: us) I1.kIn hl) r2 q) fun o s' hq => ?_)
  cases o with
  | error e => exact hx pins σ H1 s1 e s' I1 hq
  | ok fl =>
    cases fl with
    | ret u => exact I1.after hq
    | next => exact hq.elim
    | brk => exact hq.elim
    | cont => exact hq.elim⟩
/-- a short text, again and again -/
def rRepS : R2 := fun x y H Q => ∃ a k, x = .str a ∧ y = .int k ∧ a.length ≤ 16 ∧ 0 ≤ k ∧ k ≤ 1048576 ∧ Q (.str (Txt.mul a k)) H
theorem op_repS : OpR X (binaryOp .Mult) rRepS := by
  intro pins s σ H x y v u Q I rx ry h
  obtain ⟨a, k, rfl, rfl, ha, h0, h1, q⟩ := h
  obtain ⟨t, rfl⟩ := rx
  obtain ⟨t', rfl⟩ := ry
  exact SB.mul (mulOk_of 16 1048576 ha (by simpa using h1) (by omega) (by decide) (by decide)) fun t' tk => ⟨.str (Txt.mul a k), H, I.tok _, ⟨_, rfl⟩, q⟩
end
end TkO
namespace DL
open PySem PySem.Spec L2
theorem od_repS {T : Tb} {K : PySem.W.Frag} {a : Str} {k : Int} {g : G} {r : Rs} (ha : a.length ≤ 16) (h0 : 0 ≤ k) (h1 : k ≤ 1048576) : OpD T K TkO.rRepS (.str a) (.int k) g r (.str (Txt.mul a k)) r := fun rf Hs H σ u v s ru rv Q q => by
  cases ru
  cases rv
  exact ⟨a, k, rfl, rfl, ha, h0, h1, q _ _ _ (Ext.refl _) s (.str _)⟩
end DL
/-! dicts whose keys are rows: rules -/
namespace RD
open PySem PySem.Spec PyProof.Rows L2 DL PySem.W
section
variable {X : Cx} {pins : List (Addr × Obj)} {σ : L2.St} {H : Hp} {s : Shared} {A : Around} {E : Value → Shared → Prop}
abbrev knd (X : Cx) : HeapKind X.prog X.w (List Int) := tupleKind (intKind X.prog X.w)
theorem items_of : ∀ {k : List Int} {its : List Value}, Vals (k.map V.int) its → ItemsAre (intKind X.prog X.w) k its
  | [], _, .nil => .nil
  | a :: k, _, .cons r t => by
    obtain ⟨u, rfl⟩ := r
    refine .cons ?_ (items_of t)
    show Value.isInt a (.int a u) = true
    simp [Value.isInt]
/-- the keys' objects -/
def Keyed (K : PySem.W.Frag) (H : Hp) (xs : List REnt) : Prop := ∀ x ∈ xs, SqT K H x.2.1 (x.1.map V.int)
theorem key_is (I : Inv X pins σ H s) {k : List Int} {b : Addr} (h : SqT X.K H b (k.map V.int)) : (knd X).is s.heap k b := by
  obtain ⟨its, rv, ⟨o, h1, h2, n, h3⟩, _⟩ := I.tuple h
  exact ⟨o, its.toArray, n, h1, h2, h3, by simpa using items_of rv⟩
theorem dict_at (I : Inv X pins σ H s) {a : Addr} {xs : List REnt} (h : H a = some (DictAt a xs)) (hk : Keyed X.K H xs) : (a == sysModules) = false ∧ xs.length ≤ sizeLine ∧ s.heap.DictOfH (knd X) a xs := by
  obtain ⟨⟨h1, h2, ⟨o, es, ep, h3, h4, h5, h6⟩, h7⟩, _, _⟩ := I.hok a _ h
  exact ⟨h1, h2, o, es, ep, h3, h4, h5, h6, fun x hx => key_is I (hk x hx), h7⟩
theorem ok_dict {h : Heap} {a : Addr} {xs : List REnt} {H' : Hp} (h1 : (a == sysModules) = false) (h2 : xs.length ≤ sizeLine) (h3 : h.DictOfH (knd X) a xs) : ObjOk X.prog X.w H' h a (DictAt a xs) := by
  obtain ⟨o, es, ep, g1, g2, g3, g4, g5, g6⟩ := h3
  refine ⟨⟨h1, h2, ⟨o, es, ep, g1, g2, g3, g4⟩, g6⟩, ⟨o, g1⟩, fun ha hb ⟨p1, p2, ⟨o', es', ep', q1, q2, q3, q4⟩, p4⟩ st => ⟨p1, p2, ⟨o', es', ep', st _ q1, q2, q3, q4⟩, p4⟩⟩
theorem stored_len {xs : List REnt} {k : List Int} {b : Addr} {u : Value} : (storedH xs k b u).length ≤ xs.length + 1 := by
  unfold storedH
  split
  · rw [List.length_map]; omega
  · rw [List.length_append]; simp
/-- {} -/
def tRNew : TE := fun _ H Q => ∀ p, H p = none → Q (.ref p) (upd H p (DictAt p []))
theorem pe_rnew {pos : Pos} : PE X (.Dict [] [] pos) tRNew := ⟨fun pins s σ H Q I h =>
  wpAny_Dict_empty ⟨.ref s.heap.objs.size, _, I.laid (a := s.heap.objs.size) (o := DictAt s.heap.objs.size []) (t' := s.toks) (fun _ _ q => Heap.get?_push_of_some _ q) (Nat.le_refl _)
    (ok_dict (X := X) (beq_eq_false_iff_ne.mpr (Ne.symm (Nat.ne_of_lt I.big))) (Nat.zero_le _) ⟨_, #[], 0, Heap.get?_push_size _ rfl, ⟨rfl, rfl, rfl⟩, rfl, rfl, fun _ hx => by simp at hx, List.nodup_nil⟩), rfl, h _ (I.hok.fresh (Nat.le_refl _))⟩⟩
theorem room_of (hu : A.units + 1 < cLine) : (knd X).room A.in1 := hu
theorem room_0 (hu : A.units + 1 < cLine) : (knd X).room A := by
  show A.units < cLine
  omega
theorem ext_mut {a : Addr} {xs : List REnt} (h : H a = some (DictAt a xs)) : Mut (H a) := by
  rw [h]
  exact True.intro
/-- the store itself -/
theorem put_ok {a b : Addr} {xs : List REnt} {k : List Int} {v : V} {u : Value} {Q : Unit → Shared → Prop} (hu : A.units + 1 < cLine) (I : Inv X pins σ H s) (h : H a = some (DictAt a xs)) (hk : Keyed X.K H xs) (hb : SqT X.K H b (k.map V.int)) (hz : xs.length < sizeLine)
    (q : ∀ s', Inv X pins σ (upd H a (DictAt a (storedH xs k b u))) s' → Q () s') : wpAny (model X.prog X.w) A (setItem (.ref a) (.ref b) u) Q E s := by
  obtain ⟨h1, h2, h3⟩ := dict_at I h hk
  refine wpAny_setItem_heap (hsz := h2) (room_of hu) (key_is I hb) h3 fun h' dd hs => q _ ?_
  have he : ∃ o, h'.get? a = some o := let ⟨o, _, _, g, _⟩ := dd; ⟨o, g⟩
  exact d_write I (ext_mut h) hs he (ok_dict h1 (by have := stored_len (xs := xs) (k := k) (b := b) (u := u); omega) dd)
theorem set_ok {a b : Addr} {xs : List REnt} {k : List Int} {u : Value} {Q : Unit → Shared → Prop} (hu : A.units + 1 < cLine) (I : Inv X pins σ H s) (h : H a = some (DictAt a xs)) (hk : Keyed X.K H xs) (hb : SqT X.K H b (k.map V.int)) (hz : xs.length < sizeLine)
    (q : ∀ s', Inv X pins σ (upd H a (DictAt a (storedH xs k b u))) s' → Q () s') : wpAny (model X.prog X.w) A (dictSet a (.ref b) u) Q E s := by
  obtain ⟨h1, h2, h3⟩ := dict_at I h hk
  refine wpAny_dictSet_heap (hsz := h2) (room_0 hu) (key_is I hb) h3 fun h' dd hs => q _ ?_
  have he : ∃ o, h'.get? a = some o := let ⟨o, _, _, g, _⟩ := dd; ⟨o, g⟩
  exact d_write I (ext_mut h) hs he (ok_dict h1 (by have := stored_len (xs := xs) (k := k) (b := b) (u := u); omega) dd)
/-- d[k] = v -/
def sRPut (K : PySem.W.Frag) (td ty tv : TE) : TS := fun D σ H => tv σ H fun v H1 => td σ H1 fun x H2 => ty σ H2 fun y H3 => ∃ a b xs k, x = .ref a ∧ y = .ref b ∧ H3 a = some (DictAt a xs) ∧ Keyed K H3 xs ∧ SqT K H3 b (k.map V.int) ∧ xs.length < sizeLine ∧
  ∀ u, RelV v u → D.nx σ (upd H3 a (DictAt a (storedH xs k b u)))
theorem ps_rput {o i value : Expr} {pos pos' : Pos} {td ty tv : TE} (hu : X.A.units + 1 < cLine) (ho : PE X o td) (hi : PE X i ty) (hv : PE X value tv) (hs : swapsWith value (some (.Subscript o i pos')) pos.line X.env = pure false := by rfl) :
    PS X (.Assign [.Subscript o i pos'] value pos) (sRPut X.K td ty tv) := by
  refine ⟨fun pins s σ H D I h => ?_⟩
  refine wpAny_Assign_Subscript (thn (hv.run pins s σ H _ I h) fun r s1 ⟨v, H1, I1, rv, q1⟩ => thn (ho.run pins s1 σ H1 _ I1 q1) fun w s2 ⟨x, H2, I2, rx, q2⟩ => thn (hi.run pins s2 σ H2 _ I2 q2) fun iv s3 ⟨y, H3, I3, ry, a, b, xs, k, ex, ey, g1, g2, g3, g4, q3⟩ => ?_) hs
  subst ex ey
  obtain rfl : w = Value.ref a := rx
  obtain rfl : iv = Value.ref b := ry
  exact put_ok (v := v) hu I3 g1 g2 g3 g4 fun s4 I4 => ⟨σ, _, I4, q3 _ rv⟩
/-- len(d) -/
def rLenR (K : PySem.W.Frag) : List V → Hp → VK → Prop := fun vs H Q => ∃ (a : Addr) (xs : List REnt), vs = [.ref a] ∧ H a = some (DictAt a xs) ∧ Keyed K H xs ∧ Q (.int ((xs.length : Nat) : Int)) H
theorem cr_lenR : CallR X (.builtin "len") (rLenR X.K) := by
  intro pins s σ H vs us Q I r h
  obtain ⟨a, xs, rfl, h1, h2, q⟩ := h
  rw [Vals.ref1 r]
  obtain ⟨g1, g2, g3⟩ := dict_at I h1 h2
  refine call_len_dictH g1 g3 (by rw [sizeLine_eq] at g2; omega) ?_
  exact ⟨.int ((xs.length : Nat) : Int), H, I.tok _, ⟨_, rfl⟩, q⟩
/-- k in d -/
def valR (xs : List REnt) (k : List Int) : Option Value := (atKey xs k).map (·.2)
def rInR (K : PySem.W.Frag) : R2 := fun y x H Q => ∃ a b xs k, x = .ref a ∧ y = .ref b ∧ H a = some (DictAt a xs) ∧ Keyed K H xs ∧ SqT K H b (k.map V.int) ∧ Q (.bl (atKey xs k).isSome) H
def rNinR (K : PySem.W.Frag) : R2 := fun y x H Q => ∃ a b xs k, x = .ref a ∧ y = .ref b ∧ H a = some (DictAt a xs) ∧ Keyed K H xs ∧ SqT K H b (k.map V.int) ∧ Q (.bl (!(atKey xs k).isSome)) H
theorem op_inR (hu : X.A.units + 1 < cLine) : OpR X (compareOp .In) (rInR X.K) := by
  intro pins s σ H x y v u Q I rx ry h
  obtain ⟨a, b, xs, k, rfl, rfl, g1, g2, g3, q⟩ := h
  obtain rfl : v = Value.ref b := rx
  obtain rfl : u = Value.ref a := ry
  obtain ⟨h1, h2, h3⟩ := dict_at I g1 g2
  refine wpAny_in_heap (room_of hu) (key_is I g3) h1 h3 ?_
  exact ⟨.bl _, H, I.tok _, rfl, q⟩
theorem op_ninR (hu : X.A.units + 1 < cLine) : OpR X (compareOp .NotIn) (rNinR X.K) := by
  intro pins s σ H x y v u Q I rx ry h
  obtain ⟨a, b, xs, k, rfl, rfl, g1, g2, g3, q⟩ := h
  obtain rfl : v = Value.ref b := rx
  obtain rfl : u = Value.ref a := ry
  obtain ⟨h1, h2, h3⟩ := dict_at I g1 g2
  refine wpAny_notIn_heap (room_of hu) (key_is I g3) h1 h3 ?_
  exact ⟨.bl _, H, I.tok _, rfl, q⟩
/-- d[k] -/
def rIxR (K : PySem.W.Frag) : R2 := fun x y H Q => ∃ a b xs k v u c, x = .ref a ∧ y = .ref b ∧ H a = some (DictAt a xs) ∧ Keyed K H xs ∧ SqT K H b (k.map V.int) ∧ atKey xs k = some (c, u) ∧ RelV v u ∧ Q v H
def tIxR (K : PySem.W.Frag) (td ty : TE) : TE := tOp (rIxR K) td ty
theorem pe_ixR {o i : Expr} {pos : Pos} {td ty : TE} (hu : X.A.units + 1 < cLine) (ho : PE X o td) (hi : PE X i ty) (hs : NoSl i) : PE X (.Subscript o i pos) (tIxR X.K td ty) := by
  refine ⟨fun pins s σ H Q I h => ?_⟩
  refine subD_of PySem.F.slot_dict_getitem.lookup hs (thn (ho.run pins s σ H _ I h) fun w s1 ⟨x, H1, I1, rx, q1⟩ => thn (hi.run pins s1 σ H1 _ I1 q1) fun iv s2 ⟨y, H2, I2, ry, a, b, xs, k, v, u, c, ex, ey, g1, g2, g3, g4, rv, q2⟩ => ?_)
  subst ex ey
  obtain rfl : w = Value.ref a := rx
  obtain rfl : iv = Value.ref b := ry
  obtain ⟨h1, h2, h3⟩ := dict_at I2 g1 g2
  exact ⟨h3.typeIs, wpAny_getItem_heap (room_of hu) (key_is I2 g3) h3 g4 ⟨v, H2, I2.tok _, rv, q2⟩⟩
end
end RD
/-! dict(pairs), sorted(d), keys rows -/
namespace RD
open PySem PySem.Spec PyProof.Rows L2 DL PySem.W
section
variable {X : Cx} {pins : List (Addr × Obj)} {σ : L2.St} {H : Hp} {s : Shared} {A : Around} {E : Value → Shared → Prop}
/-- the row, its object, the value as it is read -/
abbrev VEnt := List Int × Addr × V
def zipE (es : List VEnt) (us : List Value) : List REnt := List.zipWith (fun e u => (e.1, e.2.1, u)) es us
theorem rows_of (I : Inv X pins σ H s) : ∀ {ps : List Addr} {es : List VEnt}, Paired (fun p (e : VEnt) => SqT X.K H p [V.ref e.2.1, e.2.2] ∧ SqT X.K H e.2.1 (e.1.map V.int)) ps es →
    ∃ us : List Value, Vals (es.map fun e => e.2.2) us ∧ us.length = ps.length ∧ es.length = ps.length ∧ ∀ (j : Nat) (q : REnt), (zipE es us)[j]? = some q → ∃ b : Addr, ps[j]? = some b ∧ IsTup s.heap b #[.ref q.2.1, q.2.2]
  | _, _, .nil => ⟨[], .nil, rfl, rfl, fun j q e => by simp [zipE] at e⟩
  | _, _, .cons (a := p) (b := e0) h t => by
    obtain ⟨us, r, hl, hl2, hp⟩ := rows_of I t
    obtain ⟨its, rv, ht, _⟩ := I.tuple h.1
    obtain ⟨u, y, ei, ru, ry⟩ := vals2 rv
    subst ei
    obtain rfl : u = Value.ref e0.2.1 := ru
    refine ⟨y :: us, .cons ry r, by rw [List.length_cons, List.length_cons, hl], by rw [List.length_cons, List.length_cons, hl2], fun j q e => ?_⟩
    cases j with
    | zero =>
      have e' : (e0.1, e0.2.1, y) = q := Option.some.inj e
      subst e'
      exact ⟨p, rfl, ht⟩
    | succ j =>
      obtain ⟨b, e1, e2⟩ := hp j q (by simpa [zipE] using e)
      exact ⟨b, by simpa using e1, e2⟩
theorem rows_keyed : ∀ {ps : List Addr} {es : List VEnt} {us : List Value}, Paired (fun p (e : VEnt) => SqT X.K H p [V.ref e.2.1, e.2.2] ∧ SqT X.K H e.2.1 (e.1.map V.int)) ps es → Keyed X.K H (zipE es us)
  | _, _, _, .nil => fun x hx => by simp [zipE] at hx
  | _, _, [], .cons _ _ => fun x hx => by simp [zipE] at hx
  | _, e0 :: l, u :: us, .cons h t => fun x hx => by
    have hx : x = (e0.1, e0.2.1, u) ∨ x ∈ zipE l us := by simpa [zipE] using hx
    rcases hx with e | hx
    · rw [e]; exact h.2
    · exact rows_keyed t x hx
theorem keyed_stored {K : PySem.W.Frag} {xs : List REnt} {k : List Int} {b : Addr} {u : Value} (h : Keyed K H xs) (hb : SqT K H b (k.map V.int)) : Keyed K H (storedH xs k b u) := fun x hx => by
  unfold storedH at hx
  split at hx
  · obtain ⟨y, hy, rfl⟩ := List.mem_map.mp hx
    unfold putAt
    split <;> exact h y hy
  · rcases List.mem_append.mp hx with z | z
    · exact h x z
    · rw [List.mem_singleton.mp z]; exact hb
theorem keyed_all {K : PySem.W.Frag} : ∀ {ps xs : List REnt}, Keyed K H xs → Keyed K H ps → Keyed K H (storedAllH xs ps)
  | [], xs, h, _ => h
  | p :: ps, xs, h, hp => by
    show Keyed K H (storedAllH (storedH xs p.1 p.2.1 p.2.2) ps)
    exact keyed_all (keyed_stored h (hp p List.mem_cons_self)) fun x hx => hp x (List.mem_cons_of_mem _ hx)
theorem all_len : ∀ (ps xs : List REnt), (storedAllH xs ps).length ≤ xs.length + ps.length
  | [], xs => Nat.le_refl _
  | p :: ps, xs => by
    show (storedAllH (storedH xs p.1 p.2.1 p.2.2) ps).length ≤ _
    have h1 := all_len ps (storedH xs p.1 p.2.1 p.2.2)
    have h2 := stored_len (xs := xs) (k := p.1) (b := p.2.1) (u := p.2.2)
    rw [List.length_cons]
    omega
/-- dict(xs) of a list of pairs (row, value) -/
def rDictR (K : PySem.W.Frag) : List V → Hp → VK → Prop := fun vs H Q => ∃ (a : Addr) (ps : List Addr) (es : List VEnt), vs = [.ref a] ∧ SqL K H a (ps.map V.ref) ∧
  Paired (fun p (e : VEnt) => SqT K H p [V.ref e.2.1, e.2.2] ∧ SqT K H e.2.1 (e.1.map V.int)) ps es ∧ ∀ p us, H p = none → Vals (es.map fun e => e.2.2) us → Q (.ref p) (upd H p (DictAt p (storedAllH [] (zipE es us))))
theorem cr_dictR (hc : X.calm = true) (hu : X.A.units + 20 < cLine) : CallR X (.type "dict") (rDictR X.K) := by
  intro pins s σ H vs ws Q I r h
  obtain ⟨a, ps, es, rfl, hq, hp, q⟩ := h
  rw [Vals.ref1 r]
  obtain ⟨its, rv, ⟨o, n, ho, hcl, hd, hdat⟩, hz⟩ := I.list hq
  have ei := refs_at rv
  subst ei
  obtain ⟨us, ru, hl, hl2, hpr⟩ := rows_of I hp
  have hlen : (zipE es us).length = ps.length := by
    unfold zipE
    rw [List.length_zipWith, hl, hl2, Nat.min_self]
  have hk := rows_keyed (X := X) (us := us) hp
  let prs : List (Value × Value) := (zipE es us).map fun q => (.ref q.2.1, q.2.2)
  let Ts : Nat → Addr := fun j => ps.getD j 0
  have P := PairArg.list (prog := X.prog) (w := X.w) a (ps.map Value.ref).toArray Ts prs
  have hpl : prs.length = ps.length := by rw [List.length_map, hlen]
  have hz2 : prs.length ≤ sizeLine := by rw [hpl]; rw [List.length_map] at hz; exact hz
  refine call_dict_pairsH (knd := knd X) (ps := zipE es us) P (I.ok.hd hc) (by
      show X.A.in1.in1.units < cLine
      have : X.A.in1.in1.units ≤ X.A.units + 8 := by
        first
          | exact Nat.le_add_right _ _
          | (show _ ≤ _; simp [Around.in1])
      omega) ⟨⟨o, n, ho, hcl, hd, hdat⟩, by simp [hpl], fun j k v e => ?_⟩ ⟨by rw [hpl, hlen], fun i key v e => ?_⟩ (fun h' kp x hx => ?_) hz2 fun h' tk dd kp => ?_
  · rw [List.getElem?_map] at e
    obtain ⟨q0, e1, e2⟩ := Option.map_eq_some_iff.mp e
    cases e2
    obtain ⟨b, b1, b2⟩ := hpr j q0 e1
    have hb : Ts j = b := by
      show ps.getD j 0 = b
      rw [List.getD_eq_getElem?_getD, b1]
      rfl
    rw [hb]
    exact ⟨by simp [b1], .inl b2⟩
  · have e : prs[i]? = some (key, v) := e
    rw [List.getElem?_map] at e
    obtain ⟨q0, e1, e2⟩ := Option.map_eq_some_iff.mp e
    cases e2
    exact ⟨q0.1, q0.2.1, e1, rfl⟩
  · obtain ⟨o', its', n', g1, g2⟩ := key_is I (hk x hx)
    exact ⟨o', its', n', kp _ _ (Nat.ne_of_lt (Heap.lt_size g1)) (by simp) g1, g2⟩
  · have hm : (s.heap.objs.size == sysModules) = false := beq_eq_false_iff_ne.mpr (Nat.ne_of_gt I.big)
    refine ⟨.ref s.heap.objs.size, upd H s.heap.objs.size (DictAt s.heap.objs.size (storedAllH [] (zipE es us))), I.laid (t' := tk) (fun b o e => kp b o (by simp) e) (Nat.le_refl _) (ok_dict (X := X) hm ?_ dd), rfl, q _ us (I.hok.fresh (Nat.le_refl _)) ru⟩
    have := all_len (zipE es us) []
    rw [hlen, List.length_nil, Nat.zero_add] at this
    rw [List.length_map] at hz
    omega
/-- sorted(d) -/
def rSortedR (K : PySem.W.Frag) : List V → Hp → VK → Prop := fun vs H Q => ∃ (a : Addr) (xs : List REnt) (ds : List PyData), vs = [V.ref a] ∧ H a = some (DictAt a xs) ∧ Keyed K H xs ∧ DpAll K H (xs.map fun x => V.ref x.2.1) ds ∧ AllAlike ds ∧ (∀ d ∈ ds, d ≠ .none ∧ d.depth ≤ 60) ∧
  ∀ (zs : List (V × PyData)) (p : Addr), zs.Perm ((xs.map fun x => V.ref x.2.1).zip ds) → zs.Pairwise (fun x y => dataLt y.2 x.2 = false) → H p = none → Q (.ref p) (upd H p (.lst (zs.map (·.1))))
/-- sorting what is collected -/
theorem sorted_its {x : Value} {xs : List V} {its : List Value} {ds : List PyData} {Q : VK} (hu : X.A.units + 70 < cLine) (I : Inv X pins σ H s) (rv : Vals xs its) (hz : xs.length ≤ sizeLine) (hd : DpAll X.K H xs ds)
    (hcol : ∀ Q' : List Value → Shared → Prop, (∀ h' tk, (∀ b o, s.heap.get? b = some o → h'.get? b = some o) → Q' its { s with heap := h', toks := tk }) → wpAny (model X.prog X.w) X.A.in1 (collect x) Q' X.xe s)
    (hal : AllAlike ds) (hn : ∀ d ∈ ds, d ≠ .none ∧ d.depth ≤ 60)
    (q : ∀ (zs : List (V × PyData)) (p : Addr), zs.Perm (xs.zip ds) → zs.Pairwise (fun x y => dataLt y.2 x.2 = false) → H p = none → Q (.ref p) (upd H p (.lst (zs.map (·.1))))) :
    wpAny (model X.prog X.w) X.A (call (.builtin "sorted") [x]) (EP X pins σ Q) X.xe s := by
  obtain ⟨as, ra⟩ := Dp.readsAll I ds xs its hd rv
  have er := each_reads ra
  obtain ⟨t, t1, t2, t3⟩ := trip_of rv er
  let k : Value → PyData := fun v => open Classical in if z : ∃ d, d ∈ ds ∧ ∃ as, Reads s.heap v d as then z.choose else .none
  have hk : ∀ v d, d ∈ ds → (∃ as, Reads s.heap v d as) → k v = d := fun v d h1 h2 => by
    have z : ∃ d, d ∈ ds ∧ ∃ as, Reads s.heap v d as := ⟨d, h1, h2⟩
    have e : k v = z.choose := dif_pos z
    obtain ⟨m, as1, r1⟩ := z.choose_spec
    obtain ⟨as2, r2⟩ := h2
    rw [e]
    exact alike_unique _ _ _ _ _ (hal _ m _ h1) r1 r2
  have hv : ∀ v ∈ its, k v ∈ ds ∧ ∃ as, Reads s.heap v (k v) as := fun v hm => by
    obtain ⟨d, h1, h2⟩ := er.left v hm
    rw [hk v d h1 h2]
    exact ⟨h1, h2⟩
  have hU : ∀ d ∈ ds, X.A.in1.in1.units + d.depth < cLine := fun d hd => by
    have := (hn d hd).2
    have e : X.A.in1.in1.units ≤ X.A.units + 8 := by
      first
        | exact Nat.le_add_right _ _
        | (show _ ≤ _; simp [Around.in1])
    omega
  refine SrtO.sorted_col (SrtD.swo_data k) (vs := its) (by rw [← rv.length]; exact hz) hcol (fun h2 h₁ tk a' _ hkk => SrtD.data_sortable (s := { s with heap := h₁, toks := tk }) h2 er hv hkk hal (fun d hd => (hn d hd).1) hU) fun out h0 h' tk h1 h2 k0 k1 hat => ?_
  obtain ⟨ep, he'⟩ := hat
  obtain ⟨t', p1, p2⟩ := SrtD.perm_lift (fun x : Value × (V × PyData) => x.1) h2.perm t t1
  have m3 : ∀ x ∈ t', RelV x.2.1 x.1 ∧ x.2.2 ∈ ds ∧ ∃ as, Reads s.heap x.1 x.2.2 as := fun x hx => t3 x (p1.mem_iff.mp hx)
  have rvs : Vals (t'.map fun x => x.2.1) out := by
    have := vals_trip fun x hx => (m3 x hx).1
    rw [p2] at this
    exact this
  have hlen : (t'.map fun x => x.2.1).length ≤ sizeLine := by
    rw [rvs.length, h2.perm.length_eq, ← rv.length]
    exact hz
  have I1 : Inv X pins σ H { s with heap := h0, toks := tk } := I.kept k0
  refine ⟨.ref _, upd H h0.objs.size (.lst (t'.map fun x => x.2.1)), I1.laid (t' := tk) k1 (Nat.le_refl _) ⟨hlen, out, ep, rvs, he'⟩, rfl, ?_⟩
  have q' := q (t'.map (·.2)) h0.objs.size (by rw [← t2]; exact p1.map _) ?_ (I1.hok.fresh (Nat.le_refl _))
  · rw [List.map_map] at q'
    exact q'
  · rw [← p2] at h1
    rw [List.pairwise_map]
    have h1' : t'.Pairwise (fun x y => dataLt (k y.1) (k x.1) = false) := List.pairwise_map.mp h1
    refine List.Pairwise.imp_of_mem (fun hx hy h => ?_) h1'
    rw [hk _ _ (m3 _ hx).2.1 (m3 _ hx).2.2, hk _ _ (m3 _ hy).2.1 (m3 _ hy).2.2] at h
    exact h
theorem items_eq {es : Array DictEntry} {acc : Array Value} (h : ItemsOf (fun i v => ∃ hi : i < es.size, v = es[i].key) acc es.size) : acc.toList = es.toList.map fun e => e.key := by
  refine List.ext_getElem? fun i => ?_
  rw [List.getElem?_map, Array.getElem?_toList, Array.getElem?_toList]
  by_cases hi : i < es.size
  · have ha : i < acc.size := by rw [h.1]; exact hi
    obtain ⟨hi', e⟩ := h.2 i acc[i] (Array.getElem?_eq_getElem ha)
    rw [Array.getElem?_eq_getElem ha, Array.getElem?_eq_getElem hi, e]
    rfl
  · rw [Array.getElem?_eq_none (by rw [h.1]; omega), Array.getElem?_eq_none (by omega)]
    rfl
theorem cr_sortedR (hc : X.calm = true) (hu : X.A.units + 70 < cLine) : CallR X (.builtin "sorted") (rSortedR X.K) := by
  intro pins s σ H vs us Q I r h
  obtain ⟨a, xs, ds, rfl, h1, h2, hd, hal, hn, q⟩ := h
  rw [Vals.ref1 r]
  obtain ⟨g1, g2, o, es, ep, e1, e2, e3, e4, e5⟩ := dict_at I h1 h2
  have hsz : es.size = xs.length := size_of_entries e4
  refine sorted_its (its := xs.map fun x => Value.ref x.2.1) hu I ?_ (by rw [List.length_map]; exact g2) hd (fun Q' hq => ?_) hal hn q
  · have : ∀ l : List REnt, Vals (l.map fun x => V.ref x.2.1) (l.map fun x => Value.ref x.2.1) := fun l => by
      induction l with
      | nil => exact .nil
      | cons a l ih => exact .cons rfl ih
    exact this xs
  · refine kdu_collect (KdlSrc.rawDict (es := es) (ep := ep) g1) (show X.A.in1.handled = none from I.ok.hd hc) ⟨o, e1, e2, e3⟩ (by rw [hsz]; exact g2) fun h' tk acc kp hit => ?_
    have := hq h' tk kp
    rw [items_eq hit, e4, List.map_map]
    exact this
end
end RD
/-! comprehensions: whatever is being filled; the block's readings may know the frame around it -/
namespace CmE
open PySem PySem.Spec PyProof.Rows L2 DL
abbrev ErrN (P : Program) (w : World) (A : Around) (env : Env) (R : Result → Shared → Prop) : Value → Shared → Prop := notedBy (model P w) A env fun e s' => R (.error e) s'
abbrev Tests (ifs : List Expr) (env : Env) : Sem Bool := forIn ifs true fun c r => if r = true then do let ok ← isTrue c env (eval c env); pure (ForInStep.yield ok) else pure (ForInStep.yield r)
/-- what a kind of comprehension does -/
structure Kd (P : Program) (w : World) (C tg : Expr) (ifs : List Expr) (new : Sem Value) (ob : Obj) where
  aw : Around → Env → Addr → (Value → Shared → Prop) → (Shared → Prop) → Shared → Prop
  made : ∀ {A : Around} {E : Value → Shared → Prop} {Q : Value → Shared → Prop} {s : Shared}, Q (.ref s.heap.objs.size) { s with heap := s.heap.push ob } → wpAny (model P w) A new Q E s
  loop : ∀ {A : Around} {R : Result → Shared → Prop} {it : Value} {D : Addr} {env : Env} (J : Nat → Shared → Prop),
    (∀ n s, J n s → wpAny (model P w) A (pyNext it) (fun r s1 => (r = none → R (.ok .next) s1) ∧ ∀ v, r = some v →
      wpAny (model P w) A (letOwnedTupleGo tg it v) (fun _ s2 => wpAny (model P w) A (assign tg env v) (fun _ s3 => wpAny (model P w) A (Tests ifs env) (fun ok s4 =>
        (ok = true → aw A env D (ErrN P w A env R) (fun s5 => ∃ m, m < n ∧ J m s5) s4) ∧ (ok = false → ∃ m, m < n ∧ J m s4)) (ErrN P w A env R) s3) (ErrN P w A env R) s2) (ErrN P w A env R) s1) (ErrN P w A env R) s) →
    ∀ n s, J n s → codeAny (model P w) A (.compLoop C 0 it (.ref D) env) R s
  start : ∀ {A : Around} {R : Result → Shared → Prop} {it acc : Value} {env : Env} {s : Shared}, codeAny (model P w) A (.compLoop C 0 it acc env) R s → wpAny (model P w) A (pyIter it) (fun it' s' => codeAny (model P w) A (.compLoop C 0 it' acc env) R s') (ErrN P w A env R) s →
    codeAny (model P w) A (.compStart C 0 it acc env) R s
def kdL (P : Program) (w : World) (elt tg iter : Expr) (ifs : List Expr) (scope : Scope) (pos : Pos) : Kd P w (.ListComp elt [⟨tg, iter, ifs, 0⟩] scope pos) tg ifs (newList []) { cls := .type "list", data := .seq ([] : List Value).toArray } where
  aw := fun A env D ER N s => wpAny (model P w) A (eval elt env) (fun x s4 => wpAny (model P w) A (call (.builtin "list.append") [.ref D, x]) (fun _ s5 => N s5) ER s4) ER s
  made := fun h => wpAny_newObj_type h (by show 0 ≤ sizeLine; decide)
  loop := fun J turn n s h => compLoop_any J (fun n s hJ => wpAny_mono (turn n s hJ) (fun r s1 hr => by
    cases r with
    | none => exact hr.1 rfl
    | some v => exact wpAny_mono (hr.2 v rfl) (fun _ s2 h2 => wpAny_mono h2 (fun _ s3 h3 => wpAny_mono h3 (fun ok s4 h4 => by
        cases ok with
        | false => exact h4.2 rfl
        | true => exact h4.1 rfl) fun _ _ z => z) fun _ _ z => z) fun _ _ z => z) fun _ _ z => z) n h
  start := fun h0 h => codeAny_compStart_list h0 h
def kdD (P : Program) (w : World) (kx vx tg iter : Expr) (ifs : List Expr) (scope : Scope) (pos : Pos) : Kd P w (.DictComp kx vx [⟨tg, iter, ifs, 0⟩] scope pos) tg ifs newDict { cls := .type "dict", data := .dict #[] } where
  aw := fun A env D ER N s => wpAny (model P w) A (eval kx env) (fun kv s4 => wpAny (model P w) A (eval vx env) (fun vv s5 => wpAny (model P w) A (dictSet D kv vv) (fun _ s6 => N s6) ER s5) ER s4) ER s
  made := fun h => wpAny_newObj_type h
  loop := fun J turn n s h => compLoop_anyD J (fun n s hJ => wpAny_mono (turn n s hJ) (fun r s1 hr => by
    cases r with
    | none => exact hr.1 rfl
    | some v => exact wpAny_mono (hr.2 v rfl) (fun _ s2 h2 => wpAny_mono h2 (fun _ s3 h3 => wpAny_mono h3 (fun ok s4 h4 => by
        cases ok with
        | false => exact h4.2 rfl
        | true => exact h4.1 rfl) fun _ _ z => z) fun _ _ z => z) fun _ _ z => z) fun _ _ z => z) n h
  start := fun h0 h => codeAny_compStart_dict h0 h
section
variable {X : Cx} {pins : List (Addr × Obj)} {σ : L2.St} {H : Hp} {s : Shared}
/-- the frame around, as the block began -/
structure Around0 (X : Cx) (pins : List (Addr × Obj)) (σ : L2.St) (Hb : Hp) (sb : Shared) (ce : Env) (fp : List Addr) : Prop where
  inv : Inv X pins σ Hb sb
  own : ∀ b ∈ fp, FpOk X pins Hb b ∧ b < sb.heap.objs.size
  loc : ce.locals = sb.heap.objs.size
section
variable {Hb : Hp} {sb : Shared} {ce : Env} {fp : List Addr} {scope : Scope} {σ' : L2.St} {H' : Hp} {s' : Shared}
theorem still (J : Inv (X.blk sb Hb scope ce fp) [] σ' H' s') (hn : ∀ b ∈ fp, H' b = none) (b : Addr) (hb : b ∈ fp) : FpOk (X.blk sb Hb scope ce fp) [] H' b := by
  obtain ⟨x1, x2⟩ := J.ok.exf b hb
  exact ⟨hn b hb, x1, J.ok.exfs b hb, Or.inl hb, fun x c e => x2 x c e, fun p hp => (nomatch (show p ∈ ([] : List (Addr × Obj)) from hp))⟩
theorem Around0.leave {pn : List (Addr × Obj)} (a : Around0 X pins σ Hb sb ce fp) (J : Inv (X.blk sb Hb scope ce fp) pn σ' H' s') : Inv X pins σ H' s' ∧ (∃ m, s'.heap.Ns sb.heap.objs.size m) ∧ FpOk X pins H' sb.heap.objs.size := by
  have free : H' sb.heap.objs.size = none := by
    rw [← a.loc]
    exact J.free
  obtain ⟨m, hm, _⟩ := J.loc
  refine ⟨a.inv.call' (ch := fp) J.os J.base J.hok J.bare fun b hb => ?_, ⟨m, by rw [← a.loc]; exact hm⟩, a.inv.fpOk (Nat.le_refl _) free⟩
  obtain ⟨⟨_, y1, y2, y3, y4, y5⟩, _⟩ := a.own b hb
  exact ⟨y3, y1, y4, y5⟩
end
/-- from within the block the frame around it may be seen -/
def Out (X : Cx) (pins : List (Addr × Obj)) (σ : L2.St) (sb : Shared) (Hb : Hp) (scope : Scope) (ce : Env) (fp : List Addr) : Prop := ∀ (pn : List (Addr × Obj)) (σ' : L2.St) (H' : Hp) (s' : Shared), Inv (X.blk sb Hb scope ce fp) pn σ' H' s' → Inv X pins σ H' s'
/-- the reading: D the new object, o0 what it is at first, act what a turn does behind the tests -/
def tCm (o0 : Addr → HO) (wi : TI) (g : TG) (tt : TT) (act : Addr → L2.St → Hp → (Hp → Prop) → Prop) (vs : List Nat) : TE := fun σ H Q => wi σ H fun J H1 => ∀ D, H1 D = none → ∃ W : Nat → Nat → Hp → Prop, (∃ m, W 0 m (upd H1 D (o0 D))) ∧ ∀ i m H, W i m H →
  (J.stop i H ∧ Q (.ref D) H) ∨ (J.go i H ∧ ∃ Nx : Hp → Prop, (∀ H', Nx H' → ∃ m', m' < m ∧ W (i + 1) m' H') ∧ ∀ x H', J.yld i H x H' → g x (wipe σ vs) H' fun σ2 H2 => wipe σ2 vs = wipe σ vs ∧ tt σ2 H2 fun b H3 =>
    if b = true then act D σ2 H3 Nx else Nx H3)
theorem run {C tg iter : Expr} {ifs : List Expr} {new : Sem Value} {ob : Obj} (kd : Kd X.prog X.w C tg ifs new ob) {o0 : Addr → HO} {scope : Scope} {own : List (Str × Nat)} {pos' : Pos} {wi : TI} {g : TG} {tt : TT} {act : Addr → L2.St → Hp → (Hp → Prop) → Prop} {Q : VK}
    (hok : ∀ (H : Hp) (h : Heap), sysModules < h.objs.size → ObjOk X.prog X.w H (h.push ob) h.objs.size (o0 h.objs.size)) (hfr : ob.isFreed = false)
    (hc : X.calm = true) (hN : X.N.Nodup) (I : Inv X pins σ H s) (hi : PI X tg iter wi) (ok : BlkOk X.N X.env.scope scope own) (hcl : clausesOf C = [⟨tg, iter, ifs, 0⟩]) (hs : ∀ x, foldedSetIterable iter X.env x = pure x)
    (hg : ∀ (s : Shared) (H : Hp) (c : Addr) (cl : List (Str × Addr)) (fp : List Addr), PG (X.blk s H scope (compEnvC scope cl c X.env) fp) tg g)
    (ht : ∀ (s : Shared) (H : Hp) (c : Addr) (cl : List (Str × Addr)) (fp : List Addr), Out X pins σ s H scope (compEnvC scope cl c X.env) fp → PTs (X.blk s H scope (compEnvC scope cl c X.env) fp) ifs tt)
    (ha : ∀ (s : Shared) (H : Hp) (c : Addr) (cl : List (Str × Addr)) (fp : List Addr), Out X pins σ s H scope (compEnvC scope cl c X.env) fp → ∀ (pins' : List (Addr × Obj)) (σ' : L2.St) (s' : Shared) (H' : Hp) (D : Addr) (Nx : Hp → Prop) (ER : Value → Shared → Prop) (N : Shared → Prop),
      Inv (X.blk s H scope (compEnvC scope cl c X.env) fp) pins' σ' H' s' → act D σ' H' Nx → (∀ s'' H'', Inv (X.blk s H scope (compEnvC scope cl c X.env) fp) pins' σ' H'' s'' → Nx H'' → N s'') → kd.aw X.A (compEnvC scope cl c X.env) D ER N s')
    (h : tCm o0 wi g tt act (own.map (·.2)) σ H Q) : wpAny (model X.prog X.w) X.A (comprehension C scope X.env pos' new false (eval iter X.env) none) (EP X pins σ Q) X.xe s := by
  have free : ∀ y ∈ scope.names, y.2 = .free → ∃ c, X.env.cells.lookup y.1 = some c := fun y hy e => (ok.free y hy e).elim (fun k => I.ok.has _ (.inl k)) fun k => I.ok.has _ (.inr k)
  refine wpAny_comprehension_free hcl hs (closure_ok free) ok.kind (fun y hy e => by rw [ok.uniq y hy, e]) ?_
  refine thn (hi.run pins s σ H _ I h) fun xv sa hx => thn hx fun itv sx hit => ?_
  obtain ⟨it, fp, tn, J, Hx, rfl, Ix, T, stx, fpx, rest⟩ := hit
  refine kd.made (newEnv_comp ?_)
  have D0 : Hx sx.heap.objs.size = none := Ix.hok.fresh (Nat.le_refl _)
  obtain ⟨W, ⟨m0, w0⟩, turn⟩ := rest _ D0
  generalize hDn : sx.heap.objs.size = D at D0 w0 turn ⊢
  -- the new object stands
  have got : (sx.heap.push ob).get? D = some ob := by
    rw [← hDn]
    exact Heap.get?_push_size _ hfr
  have Ib : Inv X pins σ (upd Hx D (o0 D)) { sx with heap := sx.heap.push ob } := by
    have := Ix.laid (a := D) (o := o0 D) (h' := sx.heap.push ob) (t' := sx.toks) (fun b u e => Heap.get?_push_of_some _ e) (Nat.le_of_eq hDn) (by
      have := hok (upd Hx D (o0 D)) sx.heap Ix.big
      rw [hDn] at this
      exact this)
    exact this
  generalize hsb : ({ sx with heap := sx.heap.push ob } : Shared) = sb at Ib ⊢
  have hph : sb.heap = sx.heap.push ob := by rw [← hsb]
  generalize hHb : upd Hx D (o0 D) = Hb at Ib w0
  have young : ∀ b ∈ fp, FpOk X pins Hb b ∧ b < sb.heap.objs.size := fun b hb => by
    obtain ⟨u, hu, _⟩ := T.obj _ _ stx b hb
    have lt := Heap.lt_size hu
    rw [hph, Heap.size_push]
    refine ⟨⟨?_, (fpx b hb).2⟩, Nat.lt_succ_of_lt lt⟩
    rw [← hHb, upd_ne (fun z => by rw [z, ← hDn] at lt; exact Nat.lt_irrefl _ lt)]
    exact (fpx b hb).1
  have Ic := block_start Ib ok hN young
  generalize hcells : cellsFrom (sb.heap.objs.size + 1) scope.names (cloFrom X.env.cells scope.names []) = cells at Ic
  have ar : Around0 X pins σ Hb sb (compEnvC scope cells sb.heap.objs.size X.env) fp := ⟨Ib, young, rfl⟩
  have out : Out X pins σ sb Hb scope (compEnvC scope cells sb.heap.objs.size X.env) fp := fun pn σ' H' s' J => (ar.leave J).1
  have pg := hg sb Hb sb.heap.objs.size cells fp
  have pt := ht sb Hb sb.heap.objs.size cells fp out
  have pa := ha sb Hb sb.heap.objs.size cells fp out
  have begun : tn 0 ({ sb with heap := pushCells (sb.heap.push { cls := .type "dict", data := .dict #[] }) scope.names } : Shared).heap := T.keep _ _ _ stx fun b _ u e => pushCells_keeps _ _ _ _ (Heap.get?_push_of_some _ (by rw [hph]; exact Heap.get?_push_of_some _ e))
  show codeAny _ _ (.compStart C 0 (.ref it) (.ref D) (compEnvC scope cells sb.heap.objs.size X.env)) (compPost (model X.prog X.w) X.A X.xe none (EP X pins σ Q) (.ref D) sb.heap.objs.size) { sb with heap := pushCells (sb.heap.push { cls := .type "dict", data := .dict #[] }) scope.names }
  clear out
  generalize compEnvC scope cells sb.heap.objs.size X.env = ce at Ic pg pt pa ar ⊢
  generalize ({ sb with heap := pushCells (sb.heap.push { cls := .type "dict", data := .dict #[] }) scope.names } : Shared) = sc at Ic begun ⊢
  have looped : codeAny (model X.prog X.w) X.A (.compLoop C 0 (.ref it) (.ref D) ce) (compPost (model X.prog X.w) X.A X.xe none (EP X pins σ Q) (.ref D) sb.heap.objs.size) sc := by
    refine kd.loop (fun n z => ∃ i G, Inv (X.blk sb Hb scope ce fp) [] (wipe σ (own.map (·.2))) G z ∧ tn i z.heap ∧ (∀ b ∈ fp, G b = none) ∧ W i n G) ?_ m0 _ ⟨0, Hb, Ic, begun, fun b hb => (young b hb).1.1, w0⟩
    rintro n z ⟨i, G, Jz, stz, nz, wz⟩
    cases turn i n G wz with
    | inl e =>
      obtain ⟨stop, fin⟩ := e
      refine thnF (T.done (X.blk sb Hb scope ce fp) rfl rfl rfl hc i [] z _ G (fun _ _ => False) Jz (still Jz nz) stz stop) fun r z2 ⟨hr, J2⟩ => ⟨fun _ => ?_, fun v e => by rw [hr] at e; cases e⟩
      obtain ⟨J3, ⟨m, hm⟩, y0, y1, y2, y3, y4, y5⟩ := ar.leave J2
      exact ⟨m, hm, fun h'' sb' => ⟨.ref D, G, J3.turned (t' := z2.toks) (fun b u hb e => (sb'.2 b hb).trans e) y0 y1 y3 y4 y5, rfl, fin⟩⟩
    | inr e =>
      obtain ⟨go, Nx, hNx, step⟩ := e
      refine thnF (T.item (X.blk sb Hb scope ce fp) rfl rfl rfl hc i [] z _ G (fun _ _ => False) Jz (still Jz nz) stz go) fun r z2 ⟨u, hr, h2⟩ => ⟨fun e => (by rw [hr] at e; cases e), fun v e => ?_⟩
      rw [hr] at e
      cases e
      refine thnF h2 fun _ z3 ⟨x, G3, J3, rx, yx, st3, n3⟩ => ?_
      have Jp := J3.pinned (still J3 n3) (T.obj _ _ st3)
      refine thnF (pg.run _ z3 _ G3 x u _ Jp rx (step x G3 yx)) fun _ z4 ⟨σ4, G4, J4, same, q4⟩ => thnF (pt.run _ z4 σ4 G4 _ J4 q4) fun b z5 ⟨G5, J5, q5⟩ => ?_
      -- behind the turn
      have next : ∀ (z6 : Shared) (G6 : Hp), Inv (X.blk sb Hb scope ce fp) ([] ++ pinsAt fp z3.heap) σ4 G6 z6 → Nx G6 → ∃ m, m < n ∧ ∃ i G, Inv (X.blk sb Hb scope ce fp) [] (wipe σ (own.map (·.2))) G z6 ∧ tn i z6.heap ∧ (∀ b ∈ fp, G b = none) ∧ W i m G := fun z6 G6 J6 nx => by
        obtain ⟨m', lt, w'⟩ := hNx G6 nx
        have kept : ∀ b ∈ fp, ∀ o, z3.heap.get? b = some o → z6.heap.get? b = some o ∧ G6 b = none := fun b hb o e => by
          obtain ⟨k1, k2, _⟩ := J6.pin (b, o) (List.mem_append_right _ (List.mem_append_right _ (mem_pinsAt hb e)))
          exact ⟨k1, k2⟩
        have J7 := (J6.unpinned (pins := [])).weak (σ' := wipe σ (own.map (·.2))) (by rw [← same, wipe_length]) fun j v e => (wipe_some (by rw [← same] at e; exact e)).1
        exact ⟨m', lt, i + 1, G6, J7, T.keep _ _ _ st3 fun b hb o e => (kept b hb o e).1, fun b hb => by
          obtain ⟨o, e, _⟩ := T.obj _ _ st3 b hb
          exact (kept b hb o e).2, w'⟩
      refine ⟨fun hb => ?_, fun hb => ?_⟩
      · subst hb
        exact pa _ σ4 z5 G5 D Nx _ _ J5 q5 next
      · subst hb
        exact next z5 G5 J5 q5
  exact kd.start looped (T.self X.A 0 _ _ _ begun looped)
/-! ### a list, its tests knowing the frame around -/
def actL (te : TE) (D : Addr) (σ : L2.St) (H : Hp) (Nx : Hp → Prop) : Prop := te σ H fun y H4 => ∃ acc, H4 D = some (.lst acc) ∧ acc.length < sizeLine ∧ Nx (upd H4 D (.lst (acc ++ [y])))
def tLcJ (wi : TI) (g : TG) (tt : L2.St → TT) (te : TE) (vs : List Nat) : TE := fun σ H Q => tLc wi g (tt σ) te vs σ H Q
theorem pe_lcJ {elt tg iter : Expr} {ifs : List Expr} {scope : Scope} {own : List (Str × Nat)} {pos : Pos} {wi : TI} {g : TG} {tt : L2.St → TT} {te : TE} (hc : X.calm = true) (hN : X.N.Nodup) (hi : PI X tg iter wi) (ok : BlkOk X.N X.env.scope scope own)
    (hg : ∀ (s : Shared) (H : Hp) (c : Addr) (cl : List (Str × Addr)) (fp : List Addr), PG (X.blk s H scope (compEnvC scope cl c X.env) fp) tg g)
    (ht : ∀ (pins : List (Addr × Obj)) (σ : L2.St) (s : Shared) (H : Hp) (c : Addr) (cl : List (Str × Addr)) (fp : List Addr), Out X pins σ s H scope (compEnvC scope cl c X.env) fp → PTs (X.blk s H scope (compEnvC scope cl c X.env) fp) ifs (tt σ))
    (he : ∀ (s : Shared) (H : Hp) (c : Addr) (cl : List (Str × Addr)) (fp : List Addr), PE (X.blk s H scope (compEnvC scope cl c X.env) fp) elt te) (hs : ∀ x, foldedSetIterable iter X.env x = pure x := by intro _; rfl) :
    PE X (.ListComp elt [⟨tg, iter, ifs, 0⟩] scope pos) (tLcJ wi g tt te (own.map (·.2))) := by
  refine ⟨fun pins s σ H Q I h => ?_⟩
  rw [eval_ListComp]
  exact run (kdL X.prog X.w elt tg iter ifs scope pos) (o0 := fun _ => .lst []) (act := actL te) (fun H h hb => ⟨Nat.zero_le _, [], 0, .nil, Heap.get?_push_size _ rfl⟩) rfl hc hN I hi ok rfl hs hg (fun s H c cl fp o => ht pins σ s H c cl fp o)
    (fun s H c cl fp o pins' σ' s' H' D Nx ER N J q nx => thnF ((he s H c cl fp).run pins' s' σ' H' _ J q) fun x s4 ⟨y, H4, J4, rx, acc, hD, hz, n⟩ => app_ok (X := X.blk s H scope (compEnvC scope cl c X.env) fp) J4 hD hz rx fun s5 J5 => nx s5 _ J5 n) h
/-! ### a dict of rows -/
def actR (K : PySem.W.Frag) (tk tv : TE) (D : Addr) (σ : L2.St) (H : Hp) (Nx : Hp → Prop) : Prop := tk σ H fun y H4 => tv σ H4 fun z H5 => ∃ b xs k, y = .ref b ∧ H5 D = some (DictAt D xs) ∧ RD.Keyed K H5 xs ∧ SqT K H5 b (k.map V.int) ∧ xs.length < sizeLine ∧
  ∀ u, RelV z u → Nx (upd H5 D (DictAt D (storedH xs k b u)))
def tDcR (K : PySem.W.Frag) (wi : TI) (g : TG) (tt : TT) (tk tv : TE) (vs : List Nat) : TE := tCm (fun D => DictAt D []) wi g tt (actR K tk tv) vs
theorem pe_dcR {kx vx tg iter : Expr} {ifs : List Expr} {scope : Scope} {own : List (Str × Nat)} {pos : Pos} {wi : TI} {g : TG} {tt : TT} {tk tv : TE} (hu : X.A.units + 1 < cLine) (hc : X.calm = true) (hN : X.N.Nodup) (hi : PI X tg iter wi) (ok : BlkOk X.N X.env.scope scope own)
    (hg : ∀ (s : Shared) (H : Hp) (c : Addr) (cl : List (Str × Addr)) (fp : List Addr), PG (X.blk s H scope (compEnvC scope cl c X.env) fp) tg g)
    (ht : ∀ (s : Shared) (H : Hp) (c : Addr) (cl : List (Str × Addr)) (fp : List Addr), PTs (X.blk s H scope (compEnvC scope cl c X.env) fp) ifs tt)
    (hk : ∀ (s : Shared) (H : Hp) (c : Addr) (cl : List (Str × Addr)) (fp : List Addr), PE (X.blk s H scope (compEnvC scope cl c X.env) fp) kx tk)
    (he : ∀ (s : Shared) (H : Hp) (c : Addr) (cl : List (Str × Addr)) (fp : List Addr), PE (X.blk s H scope (compEnvC scope cl c X.env) fp) vx tv) (hs : ∀ x, foldedSetIterable iter X.env x = pure x := by intro _; rfl) :
    PE X (.DictComp kx vx [⟨tg, iter, ifs, 0⟩] scope pos) (tDcR X.K wi g tt tk tv (own.map (·.2))) := by
  refine ⟨fun pins s σ H Q I h => ?_⟩
  rw [arm_eval_DictComp]
  exact run (kdD X.prog X.w kx vx tg iter ifs scope pos) (o0 := fun D => DictAt D []) (act := actR X.K tk tv) (fun H h hb => RD.ok_dict (X := X) (beq_eq_false_iff_ne.mpr (Ne.symm (Nat.ne_of_lt hb))) (Nat.zero_le _) ⟨_, #[], 0, Heap.get?_push_size _ rfl, ⟨rfl, rfl, rfl⟩, rfl, rfl, fun _ hx => by simp at hx, List.nodup_nil⟩) rfl hc hN I hi ok rfl hs hg (fun s H c cl fp o => ht s H c cl fp)
    (fun s H c cl fp o pins' σ' s' H' D Nx ER N J q nx => thnF ((hk s H c cl fp).run pins' s' σ' H' _ J q) fun kv s4 ⟨y, H4, J4, ry, q4⟩ => thnF ((he s H c cl fp).run pins' s4 σ' H4 _ J4 q4) fun vv s5 ⟨z, H5, J5, rz, b, xs, k, ey, hD, hK, hb, hz, n⟩ => by
      subst ey
      obtain rfl : kv = Value.ref b := ry
      exact RD.set_ok (X := X.blk s H scope (compEnvC scope cl c X.env) fp) hu J5 hD hK hb hz fun s6 J6 => nx s6 _ J6 (n vv rz)) h
end
end CmE
/-! told(f) in a comprehension's block, f a lambda that captured names of the frame around -/
namespace LmX
open PySem PySem.Spec PyProof.Rows L2 DL CmE LamX
/-- the lambda's body is read as the frame around stands -/
def tToldJ (σ0 : L2.St) (Gd : LInfo → (XK → TE) → Prop) (K : PySem.W.Frag) (CS : Addr) (ret : Str) (ta : TA) : TE := fun σ H Q => ta σ H fun vs H1 => ∃ (f c : Addr) (I : LInfo) (t : XK → TE), vs = [.ref f] ∧ H1 f = some (LO f c I) ∧ H1 c = some (CodeO c I.q) ∧ Gd I t ∧
  t (fun cls _ H' => ∃ b, PySem.W.exmOne K cls (.ref CS) = some b ∧ (b = true → Q (.str ret) H') ∧ (b = false → False)) σ0 H1 Q
section
variable {X : Cx}
theorem pe_toldJ {pins0 : List (Addr × Obj)} {σ0 : L2.St} {sb : Shared} {Hb : Hp} {scope : Scope} {ce : Env} {fp : List Addr} {x ret : Str} {g CS : Addr} {k : Nat} {e : Expr} {te : TA} {p pos : Pos} {Gd : LInfo → (XK → TE) → Prop} {KK : PySem.W.Frag} (hK : X.K = KK)
    (out : Out X pins0 σ0 sb Hb scope ce fp) (F : ToldF KK X.mg x g CS ret) (hG : ∀ I t, Gd I t → BodyOk X k I t) (hg : Gl (X.blk sb Hb scope ce fp) x) (hr : Room (k + 2) X.A) (ha : PA (X.blk sb Hb scope ce fp) [e] te) (hdb : (x == ("__debug__" : Str)) = false := by decide)
    (he : starEach [e] ce = (false, eval e ce) :: starEach [] ce := by rfl) (hpl : (backTo pos (starEach [] ce)).any (·.1) = false := by rfl) : PE (X.blk sb Hb scope ce fp) (.Call (.Name x p) [e] [] pos) (tToldJ σ0 Gd KK CS ret te) := by
  subst hK
  obtain ⟨oc, od, pg, sg, dV, kV, doc, pm, an, cdv, ct, osl, a, en, j, p1, p2, p3, p4, p5, p6, p7, p8, lk, hcg, hb, Sg, hva, hge, hme, hde, hda, hdc⟩ := F.ex
  refine ⟨fun pins s σ H Q I h => ?_⟩
  refine wpAny_Call_Name_kw (ld_glob I hg F.gm ?_ hdb)
  refine PySem.W.callWith_K (h₀ := X.base) I.ok.mod.kin F.kp (thn (ha.run pos pins s σ H _ I h) fun us s1 ⟨vs, H1, I1, r1, f, c', LI, t, ev, hf, hc, B0, ht⟩ => ⟨I1.kIn, ?_⟩) he hpl
  have B := hG LI t B0
  have J := out _ _ _ _ I1
  subst ev
  cases r1 with
  | cons r1 rn =>
  cases rn
  cases r1
  have rc : codeAny (model X.prog X.w) X.A (.call (.ref g) ⟨[.ref f], []⟩) (CR C8.CX0 X.stack X.prog X.w H1 s1 Q C8.E0) s1 := by
    refine run_ofS (N := [a]) (ps := [a]) (us := [.ref f]) (vs := [.ref f]) lk hcg Sg hr J.env0 (hb s1 [.ref f] J.kIn rfl) (.cons rfl .nil) rfl fun hr' => ?_
    have gives := told_gives (X := X) (Ng := [a]) (x := x) (a := a) (e := en) (q := LI.q) (ret := ret) (sg := sg) (g := g) (CS := CS) (cdg := cdv) (j := j) (p1 := p1) (p2 := p2) (p3 := p3) (p4 := p4) (p5 := p5) (p6 := p6) (p7 := p7) (p8 := p8) hge hme hde (fun f => rfl)
    obtain ⟨t', ht', hq'⟩ := gives f c' s1 H1 Q (fun E G Q' => G f = some (LO f c' LI) ∧ t E σ0 G Q') (fun W pn xe E q1 q2 tk hW => by
      have := pe_actC (i := 0) (p1 := q1) (p2 := q2) (f := f) (c' := c') J B tk hW hr' (Ng := [a]) (a := a) rfl hva hda hdc
      exact this) hc ⟨hf, ht⟩
    exact ⟨t', ht'.nox, hq'⟩
  refine wpAny_call (codeAny_mono rc fun o s2 hq => ?_)
  cases o with
  | error e => exact (show False from hq).elim
  | ok fl =>
    cases fl with
    | ret u => exact I1.after hq
    | next => exact hq.elim
    | brk => exact hq.elim
    | cont => exact hq.elim
end
end LmX
/-! instances: made, filled, read, asked -/
namespace DL
open PySem PySem.Spec PyProof.Rows L2
section
variable {T : Tb} {K : PySem.W.Frag} {E : XK} {g g' : G} {r r' r1 r2 r3 : Rs} {ta tb tc te tv : TE} {x y z d : D} {ds es : List D} {tas : TA} {O : Out} {s2 : TS} {C : Addr} {ns : List Str} {f m : Str}
/-- an instance of one's own at p -/
def ri (p C : Addr) (ns : List Str) (ds : List D) : Res where
  fp := [p]
  ok := fun K Hs H => ∃ dx fs, H p = some (.ins C dx fs) ∧ fs.map Prod.fst = ns ∧ DRs K Hs (fs.map Prod.snd) ds
  st := fun T K Hs Hs' H H' e k ⟨dx, fs, h1, h2, h3⟩ => ⟨dx, fs, by rw [k p (by simp)]; exact h1, h2, DRs.mono e ds h3⟩
theorem fld_at {H : Hp} : ∀ {fs : List (Str × V)} {ns : List Str} {ds : List D}, fs.map Prod.fst = ns → DRs K H (fs.map Prod.snd) ds → (ns.zip ds).lookup f = some d → ∃ v, fs.lookup f = some v ∧ DR K H v d
  | [], ns, ds, h1, h2, h3 => by
    subst h1
    simp at h3
  | (a, v) :: fs, ns, ds, h1, h2, h3 => by
    subst h1
    cases h2 with
    | cons ra rs =>
      simp only [List.map_cons, List.zip_cons_cons, List.lookup_cons] at h3
      rw [List.lookup_cons]
      cases q : f == a with
      | true =>
        rw [q] at h3
        cases h3
        exact ⟨v, rfl, ra⟩
      | false =>
        rw [q] at h3
        exact fld_at rfl rs h3
theorem fld_no : ∀ {fs : List (Str × V)} {ns : List Str}, fs.map Prod.fst = ns → ns.contains m = false → fs.lookup m = none
  | [], _, _, _ => rfl
  | (a, v) :: fs, ns, h1, h2 => by
    subst h1
    rw [List.map_cons, List.contains_cons, Bool.or_eq_false_iff] at h2
    rw [List.lookup_cons, h2.1]
    exact fld_no rfl h2.2
/-- x is such an instance: data, or one's own -/
def In (x : D) (r : Rs) (C : Addr) (ns : List Str) (ds : List D) : Prop := x = .ins C ns ds ∨ ∃ (p : Addr) (j : Nat), x = .ref p ∧ r[j]? = some (ri p C ns ds)
theorem in_f : In (.ins C ns ds) r C ns ds := Or.inl rfl
theorem in_o {p : Addr} (j : Nat) (h : r[j]? = some (ri p C ns ds)) : In (.ref p) r C ns ds := Or.inr ⟨p, j, rfl, h⟩
theorem In.at {rf : Rs} {Hs H : Hp} {σ : L2.St} {v : V} (h : In x r C ns ds) (s : SR T K Hs H σ g (r ++ rf)) (rv : DR K Hs v x) : ∃ a dx fs, v = .ref a ∧ H a = some (.ins C dx fs) ∧ fs.map Prod.fst = ns ∧ DRs K Hs (fs.map Prod.snd) ds := by
  rcases h with e | ⟨p, j, e, hj⟩
  · subst e
    cases rv with
    | ins h1 h2 h3 => exact ⟨_, _, _, rfl, s.ex.keep _ _ h1 (fun _ z => nomatch z), h2, h3⟩
  · subst e
    cases rv
    obtain ⟨dx, fs, h1, h2, h3⟩ := s.rs _ (List.mem_append_left _ (List.mem_of_getElem? hj))
    exact ⟨p, dx, fs, rfl, h1, h2, h3⟩
theorem ev_fld (h : Ev T K te g r x r1) (hi : In x r1 C ns ds) (hc : Cls K C) (hn : NoAttr K C f) (hl : (ns.zip ds).lookup f = some d) : Ev T K (tFld K te f) g r d r1 := fun rf Hs H σ s Q q => h rf Hs H σ s _ fun v Hs1 H1 e s1 rv => by
  obtain ⟨a, dx, fs, rfl, h1, h2, h3⟩ := hi.at s1 rv
  obtain ⟨u, l, ru⟩ := fld_at h2 h3 hl
  exact ⟨a, C, dx, fs, u, rfl, h1, hc, hn, l, q u Hs1 H1 e s1 ru⟩
theorem putF_new : ∀ {fs : List (Str × V)} {v : V}, (fs.map Prod.fst).contains f = false → putF f v fs = fs ++ [(f, v)]
  | [], v, _ => rfl
  | (a, u) :: fs, v, h => by
    rw [List.map_cons, List.contains_cons, Bool.or_eq_false_iff] at h
    have na : ¬ a = f := fun z => by
      rw [z] at h
      simp at h
    show (if a = f then _ else _) = _
    rw [if_neg na, putF_new h.2]
    rfl
/-- o.f = e, the field new -/
theorem sq_fld {p : Addr} {j : Nat} (h : Ev T K tv g r d r1) (ho : Ev T K ta g r1 (.ref p) r2) (hj : r2[j]? = some (ri p C ns ds)) (hc : Cls K C) (hn : NoAttr K C f) (hf : ns.contains f = false) (hl : ns.length ≤ 100)
    (h2 : StD T K E s2 g (r2.set j (ri p C (ns ++ [f]) (ds ++ [d]))) O) : StD T K E (tSeq (sFld K ta tv f) s2) g r O := fun rf Hs H σ s En G =>
  h rf Hs H σ s _ fun y Hs1 H1 e1 s1 ry => ho rf Hs1 H1 σ s1 _ fun x Hs2 H2 e2 s2' rx => by
    cases rx
    obtain ⟨dx, fs, a1, a2, a3⟩ := s2'.rs _ (List.mem_append_left _ (List.mem_of_getElem? hj))
    refine ⟨p, C, dx, fs, rfl, a1, hc, hn, by have : fs.length = ns.length := by rw [← a2, List.length_map]
                                              omega, ?_⟩
    rw [putF_new (by rw [a2]; exact hf)]
    have s3 := s2'.mut (y := ri p C (ns ++ [f]) (ds ++ [d])) (o := .ins C dx (fs ++ [(f, y)])) (get_app hj) rfl rfl True.intro ⟨dx, _, upd_same, by rw [List.map_append, a2]; rfl, by
      rw [List.map_append]
      exact a3.append (.cons (DR.mono e2 d ry) .nil)⟩
    rw [set_app hj] at s3
    exact h2 rf Hs2 _ σ s3 En (G.ext (e1.trans e2))
theorem st_fld {p : Addr} {j : Nat} (h : Ev T K tv g r d r1) (ho : Ev T K ta g r1 (.ref p) r2) (hj : r2[j]? = some (ri p C ns ds)) (hc : Cls K C) (hn : NoAttr K C f) (hf : ns.contains f = false) (hl : ns.length ≤ 100)
    (h2 : O.nx g (r2.set j (ri p C (ns ++ [f]) (ds ++ [d])))) : StD T K E (sFld K ta tv f) g r O := fun rf Hs H σ s En G =>
  h rf Hs H σ s _ fun y Hs1 H1 e1 s1 ry => ho rf Hs1 H1 σ s1 _ fun x Hs2 H2 e2 s2' rx => by
    cases rx
    obtain ⟨dx, fs, a1, a2, a3⟩ := s2'.rs _ (List.mem_append_left _ (List.mem_of_getElem? hj))
    refine ⟨p, C, dx, fs, rfl, a1, hc, hn, by have : fs.length = ns.length := by rw [← a2, List.length_map]
                                              omega, ?_⟩
    rw [putF_new (by rw [a2]; exact hf)]
    have s3 := s2'.mut (y := ri p C (ns ++ [f]) (ds ++ [d])) (o := .ins C dx (fs ++ [(f, y)])) (get_app hj) rfl rfl True.intro ⟨dx, _, upd_same, by rw [List.map_append, a2]; rfl, by
      rw [List.map_append]
      exact a3.append (.cons (DR.mono e2 d ry) .nil)⟩
    rw [set_app hj] at s3
    exact G.nx _ _ _ _ _ h2 (e1.trans e2) s3
/-! ### methods -/
theorem meth_any {n : Nat} {R : List D → Rs → Oc → Prop} {rc rx : Rs} {o : Oc} (ho : Ev T K ta g r x r1) (hi : In x r1 C ns es) (hm : ns.contains m = false) (h : EvA T K tas g r1 ds r2) (hp : r2.Perm (rc ++ rx)) (hn : ds.length + 1 = n) (hR : R (x :: ds) rc o)
    {rf : Rs} {Hs H : Hp} {σ : L2.St} (s : SR T K Hs H σ g (r ++ rf)) {Q : VK}
    (q : ∀ d r' v Hs' H', o.ok d r' → Ext T Hs Hs' → SR T K Hs' H' σ g (r' ++ rx ++ rf) → DR K Hs' v d → Q v H') (qe : ∀ C r' Hs' H', o.er C r' → Ext T Hs Hs' → SR T K Hs' H' σ g (r' ++ rx ++ rf) → E (.ref C) none H') :
    tMeth C m (spR T K n R) [] E ta tas σ H Q := ho rf Hs H σ s _ fun v Hs0 H0 e0 s0 rv => by
  obtain ⟨a, dx, fs, rfl, h1, h2, h3⟩ := hi.at s0 rv
  refine ⟨a, dx, fs, rfl, h1, fld_no h2 hm, h rf Hs0 H0 σ s0 _ fun vs Hs1 H1 e s1 rvs => ?_⟩
  show spR T K n R (V.ref a :: (vs ++ [])) H1 Q E
  rw [List.append_nil]
  refine ⟨by rw [List.length_cons, rvs.length]; exact hn, x :: ds, rc, rx ++ rf, Hs1, _, (s1.nil.perm (hp.append_right rf)).perm (by rw [List.append_assoc]), .cons (DR.mono e x rv) rvs, hR, fun d r' v Hs' H' eo e1 s2 rv => ?_, fun C r' Hs' H' eo e1 s2 => ?_⟩
  · refine q d r' v Hs' H' eo ((e0.trans e).trans e1) ?_ rv
    have := s.back ((e0.trans e).trans e1) s2
    rw [← List.append_assoc] at this
    exact this
  · refine qe C r' Hs' H' eo ((e0.trans e).trans e1) ?_
    have := s.back ((e0.trans e).trans e1) s2
    rw [← List.append_assoc] at this
    exact this
theorem ev_meth {n : Nat} {R : List D → Rs → Oc → Prop} (hR : R (x :: ds) [] (.one d [])) (ho : Ev T K ta g r x r1) (hi : In x r1 C ns es) (h : EvA T K tas g r1 ds r2) (hm : ns.contains m = false := by decide +kernel) (hn : ds.length + 1 = n := by rfl) : Ev T K (tMeth C m (spR T K n R) [] E ta tas) g r d r2 := fun rf Hs H σ s Q q =>
  meth_any (rc := []) (rx := r2) ho hi hm h (List.Perm.refl _) hn hR s (fun d' r' v Hs' H' eo e1 s2 rv => by
    obtain ⟨rfl, rfl⟩ := eo
    exact q v Hs' H' e1 s2 rv) fun _ _ _ _ eo => eo.elim
theorem ex_meth {n : Nat} {R : List D → Rs → Oc → Prop} {Ce : Addr} (hR : R (x :: ds) [] (.err Ce [])) (ho : Ev T K ta g r x r1) (hi : In x r1 C ns es) (h : EvA T K tas g r1 ds r2) (hm : ns.contains m = false := by decide +kernel) (hn : ds.length + 1 = n := by rfl) : EvX T K E (tMeth C m (spR T K n R) [] E ta tas) g r Ce r2 := fun rf Hs H σ s Q q =>
  meth_any (rc := []) (rx := r2) ho hi hm h (List.Perm.refl _) hn hR s (fun _ _ _ _ _ eo => eo.elim) fun C' r' Hs' H' eo e1 s2 => by
    obtain ⟨rfl, rfl⟩ := eo
    exact q Hs' H' e1 s2
/-! ### makers -/
theorem SR.dropL {Hs H : Hp} {σ : L2.St} : ∀ (a : Rs) {b : Rs}, SR T K Hs H σ g (a ++ b) → SR T K Hs H σ g b
  | [], _, s => s
  | x :: a, b, s => SR.dropL a (s.drop 0)
theorem make_any {n : Nat} {R : List D → Rs → Oc → Prop} {o : Addr → Oc} (h : EvA T K tas g r ds r1) (hn : ds.length + 1 = n) (hR : ∀ p, R (.ref p :: ds) [ri p C [] []] (o p))
    {rf : Rs} {Hs H : Hp} {σ : L2.St} (s : SR T K Hs H σ g (r ++ rf)) {Q : VK}
    (q : ∀ p d r' Hs' H', (o p).ok d r' → Ext T Hs Hs' → SR T K Hs' H' σ g (r' ++ r1 ++ rf) → d = .non ∧ Q (.ref p) H') (qe : ∀ p Ce r' Hs' H', (o p).er Ce r' → Ext T Hs Hs' → SR T K Hs' H' σ g (r' ++ r1 ++ rf) → E (.ref Ce) none H') :
    tMake C (spR T K n R) [] E tas σ H Q := h rf Hs H σ s _ fun vs Hs1 H1 e s1 rvs => fun x dx hx hdx hne => by
  rw [List.append_nil]
  have n0 : NT (.own x) := True.intro
  obtain ⟨s2, e2⟩ := s1.alloc (o := .own x) hdx n0
  have hx2 : upd H1 dx (HO.own x) x = none := by rw [upd_ne (Ne.symm hne)]; exact hx
  have s3 := s2.own (o := .ins C dx []) hx2 True.intro (x := ri x C [] []) rfl ⟨dx, [], upd_same, rfl, .nil⟩
  refine ⟨by rw [List.length_cons, rvs.length]; exact hn, .ref x :: ds, [ri x C [] []], r1 ++ rf, _, _, s3.nil, .cons (.ref x) (DRs.mono e2 ds rvs), hR x, fun d r' v Hs' H' eo e1 s4 rv => ?_, fun Ce r' Hs' H' eo e1 s4 => ?_⟩
  · have := s.back ((e.trans e2).trans e1) s4
    rw [← List.append_assoc] at this
    obtain ⟨rfl, q2⟩ := q x d r' Hs' H' eo ((e.trans e2).trans e1) this
    cases rv
    exact ⟨rfl, q2⟩
  · have := s.back ((e.trans e2).trans e1) s4
    rw [← List.append_assoc] at this
    exact qe x Ce r' Hs' H' eo ((e.trans e2).trans e1) this
/-- the new instance stands still -/
theorem ev_make {n : Nat} {R : List D → Rs → Oc → Prop} (hR : ∀ p, R (.ref p :: ds) [ri p C [] []] (.one .non [ri p C ns es])) (h : EvA T K tas g r ds r1) (hn : ds.length + 1 = n := by rfl) : Ev T K (tMake C (spR T K n R) [] E tas) g r (.ins C ns es) r1 := fun rf Hs H σ s Q q =>
  make_any (o := fun p => .one .non [ri p C ns es]) h hn hR s (fun p d' r' Hs' H' eo e1 s2 => by
    obtain ⟨rfl, rfl⟩ := eo
    have s2 : SR T K Hs' H' σ g (ri p C ns es :: (r1 ++ rf)) := s2
    obtain ⟨dx, fs, h1, h2, h3⟩ := s2.rs (ri p C ns es) (List.mem_cons_self)
    obtain ⟨s3, e3⟩ := s2.freeze (j := 0) (x := ri p C ns es) rfl rfl h1
    exact ⟨rfl, q _ _ _ (e1.trans e3) s3 (.ins upd_same h2 (DRs.mono e3 es h3))⟩) fun _ _ _ _ _ eo => eo.elim
theorem ex_make {n : Nat} {R : List D → Rs → Oc → Prop} {Ce : Addr} (hR : ∀ p, ∃ rz, R (.ref p :: ds) [ri p C [] []] (.err Ce rz)) (h : EvA T K tas g r ds r1) (hn : ds.length + 1 = n := by rfl) : EvX T K E (tMake C (spR T K n R) [] E tas) g r Ce r1 := fun rf Hs H σ s Q q =>
  make_any (o := fun p => .err Ce (Classical.choose (hR p))) h hn (fun p => Classical.choose_spec (hR p)) s (fun _ _ _ _ _ eo => eo.elim) fun p C' r' Hs' H' eo e1 s2 => by
    obtain ⟨rfl, rfl⟩ := eo
    rw [List.append_assoc] at s2
    exact q Hs' H' e1 (SR.dropL _ s2)
end
end DL
/-! the data layer: dicts of rows; tests that call captured lambdas -/
namespace DL
open PySem PySem.Spec PyProof.Rows L2 CmE RD
section
variable {T : Tb} {K : PySem.W.Frag} {E : XK} {g g' g0 : G} {r r' r1 r2 r3 : Rs} {ta tb tc te tv tk td ty : TE} {t : TT} {x y z d : D} {ds es : List D} {tas : TA} {O : Out} {s2 : TS} {ti : TI} {tg : TG} {vs : List Nat} {ks : List (List Int)}
/-! ### a dict's place -/
theorem heap_with (a : Addr) (o : Obj) (hf : o.isFreed = false) : ∃ h : Heap, h.get? a = some o ∧ ∀ b, b ≠ a → h.get? b = none := by
  let fr : Obj := { cls := .none, data := .freed }
  have hs : (⟨Array.replicate a fr, {}⟩ : Heap).objs.size = a := by simp
  have old : ∀ b, (⟨Array.replicate a fr, {}⟩ : Heap).get? b = none := fun b => by
    unfold Heap.get?
    by_cases hlt : b < a
    · have e : (Array.replicate a fr)[b]? = some fr := by simp [hlt]
      simp only [e]
      rfl
    · have e : (Array.replicate a fr)[b]? = none := Array.getElem?_eq_none (by simpa using Nat.le_of_not_lt hlt)
      simp only [e]
  refine ⟨(⟨Array.replicate a fr, {}⟩ : Heap).push o, ?_, fun b hb => ?_⟩
  · have := Heap.get?_push_size (⟨Array.replicate a fr, {}⟩ : Heap) hf
    rw [hs] at this
    exact this
  · cases q : ((⟨Array.replicate a fr, {}⟩ : Heap).push o).get? b with
    | none => rfl
    | some u =>
      have lt := Heap.lt_size q
      rw [Heap.size_push, hs] at lt
      have hlt : b < a := Nat.lt_of_le_of_ne (Nat.le_of_lt_succ lt) hb
      have e1 : ((⟨Array.replicate a fr, {}⟩ : Heap).push o).get? b = (⟨Array.replicate a fr, {}⟩ : Heap).get? b := by
        show Heap.get? ⟨(Array.replicate a fr).push o, {}⟩ b = _
        unfold Heap.get?
        have e2 : ((Array.replicate a fr).push o)[b]? = (Array.replicate a fr)[b]? := by
          rw [Array.getElem?_push, if_neg (by simpa using Nat.ne_of_lt hlt)]
        simp only [e2]
      rw [e1, old] at q
      cases q
theorem dict_nt {a : Addr} {xs : List REnt} : NT (DictAt a xs) := by
  have noF : ∀ (h : Heap) c o, h.get? c = some o → DAt a xs h → (∀ b, b ≠ c → h.get? b = none) → ∃ es ep, o.data = .dict es ep := fun h c o g1 g2 g3 => by
    obtain ⟨_, _, ⟨o', es, ep, k1, _, k2, _⟩, _⟩ := g2
    by_cases e : a = c
    · subst e
      rw [g1] at k1
      cases k1
      exact ⟨es, ep, k2⟩
    · rw [g3 a e] at k1
      cases k1
  refine ⟨fun c q z => ?_, fun f c I z => ?_⟩
  · have e : DAt a xs = _ := HO.ext.inj z
    obtain ⟨h, g1, g2⟩ := heap_with c { cls := .none, data := .fields #[.none, .str q 0] } rfl
    have m : DAt a xs h := by
      rw [e]
      exact ⟨_, _, 0, g1, rfl, rfl⟩
    obtain ⟨es, ep, k⟩ := noF h c _ g1 m g2
    cases k
  · have e : DAt a xs = _ := HO.ext.inj z
    obtain ⟨h, g1, g2⟩ := heap_with f (PySem.W.kla_obj "<lambda>" I.q I.params I.body I.scope I.cl .none c .none) rfl
    have m : DAt a xs h := by
      rw [e]
      exact ⟨.none, .none, g1⟩
    obtain ⟨es, ep, k⟩ := noF h f _ g1 m g2
    cases k
/-! ### what a store does -/
def putK (ks : List (List Int)) (k : List Int) : List (List Int) := if k ∈ ks then ks else ks ++ [k]
def putD {α : Type} (ks : List (List Int)) (ds : List α) (k : List Int) (d : α) : List α := if k ∈ ks then List.zipWith (fun k' e => if k' = k then d else e) ks ds else ds ++ [d]
theorem at_mem {xs : List REnt} {k : List Int} : (atKey xs k).isSome = decide (k ∈ rKeys xs) := by
  unfold atKey rKeys
  induction xs with
  | nil => simp
  | cons x xs ih =>
    rw [List.find?_cons]
    by_cases h : x.1 = k
    · simp [h]
    · simp only [h, decide_false]
      rw [ih, List.map_cons]
      congr 1
      simp only [List.mem_cons, eq_iff_iff]
      constructor
      · exact Or.inr
      · rintro (z | z)
        · exact (h z.symm).elim
        · exact z
theorem keys_stored {xs : List REnt} {k : List Int} {b : Addr} {u : Value} : rKeys (storedH xs k b u) = putK (rKeys xs) k := by
  unfold storedH putK
  rw [at_mem]
  by_cases h : k ∈ rKeys xs
  · rw [if_pos (by simpa using h), if_pos h]
    exact keys_map_putAt xs k u
  · rw [if_neg (by simpa using h), if_neg h]
    unfold rKeys
    rw [List.map_append]
    rfl
theorem vals_stored {xs : List REnt} {k : List Int} {b : Addr} {u : Value} : rVals (storedH xs k b u) = putD (rKeys xs) (rVals xs) k u := by
  unfold storedH putD
  rw [at_mem]
  by_cases h : k ∈ rKeys xs
  · rw [if_pos (by simpa using h), if_pos h]
    clear h
    unfold rVals rKeys
    induction xs with
    | nil => rfl
    | cons x xs ih =>
      rw [List.map_cons, List.map_cons, List.map_cons, List.map_cons, List.zipWith_cons_cons, ← ih]
      congr 1
      unfold putAt
      by_cases hx : x.1 = k
      · rw [if_pos hx, if_pos hx]
      · rw [if_neg hx, if_neg hx]
  · rw [if_neg (by simpa using h), if_neg h]
    unfold rVals
    rw [List.map_append]
    rfl
theorem vals_put : ∀ {ks : List (List Int)} {vs : List V} {us : List Value} {k : List Int} {v : V} {u : Value}, Vals vs us → RelV v u → Vals (List.zipWith (fun k' e => if k' = k then v else e) ks vs) (List.zipWith (fun k' e => if k' = k then u else e) ks us)
  | [], _, _, _, _, _, _, _ => by simp; exact .nil
  | _ :: _, _, _, _, _, _, .nil, _ => by simp; exact .nil
  | k0 :: ks, _, _, k, v, u, .cons r t, ru => by
    rw [List.zipWith_cons_cons, List.zipWith_cons_cons]
    refine .cons ?_ (vals_put t ru)
    by_cases h : k0 = k
    · rw [if_pos h, if_pos h]; exact ru
    · rw [if_neg h, if_neg h]; exact r
theorem vals_putD {ks : List (List Int)} {vs : List V} {us : List Value} {k : List Int} {v : V} {u : Value} (h : Vals vs us) (ru : RelV v u) : Vals (putD ks vs k v) (putD ks us k u) := by
  unfold putD
  split
  · exact vals_put h ru
  · exact h.append (.cons ru .nil)
theorem drs_put {Hs : Hp} : ∀ {ks : List (List Int)} {vs : List V} {ds : List D} {k : List Int} {v : V} {d : D}, DRs K Hs vs ds → DR K Hs v d → DRs K Hs (List.zipWith (fun k' e => if k' = k then v else e) ks vs) (List.zipWith (fun k' e => if k' = k then d else e) ks ds)
  | [], _, _, _, _, _, _, _ => by simp; exact .nil
  | _ :: _, _, _, _, _, _, .nil, _ => by simp; exact .nil
  | k0 :: ks, _, _, k, v, u, .cons r t, ru => by
    rw [List.zipWith_cons_cons, List.zipWith_cons_cons]
    refine .cons ?_ (drs_put t ru)
    by_cases h : k0 = k
    · rw [if_pos h, if_pos h]; exact ru
    · rw [if_neg h, if_neg h]; exact r
theorem drs_putD {Hs : Hp} {ks : List (List Int)} {vs : List V} {ds : List D} {k : List Int} {v : V} {d : D} (h : DRs K Hs vs ds) (ru : DR K Hs v d) : DRs K Hs (putD ks vs k v) (putD ks ds k d) := by
  unfold putD
  split
  · exact drs_put h ru
  · exact h.append (.cons ru .nil)
theorem nodup_putK {ks : List (List Int)} {k : List Int} (h : ks.Nodup) : (putK ks k).Nodup := by
  unfold putK
  split
  · exact h
  · rename_i n
    rw [List.nodup_append]
    refine ⟨h, by simp, fun a ha b hb z => ?_⟩
    rw [List.mem_singleton] at hb
    exact n (by rw [← hb, ← z]; exact ha)
theorem len_putK {ks : List (List Int)} {k : List Int} : (putK ks k).length ≤ ks.length + 1 := by
  unfold putK
  split
  · omega
  · simp
/-- what is to be read as a dict of rows: data, or one's own -/
def Vd2 (x : D) (r : Rs) (ks : List (List Int)) (ds : List D) : Prop := x = .dr ks ds ∨ ∃ (p : Addr) (j : Nat), x = .ref p ∧ r[j]? = some (rr p ks ds)
theorem vr_f : Vd2 (.dr ks ds) r ks ds := Or.inl rfl
theorem vr_o {p : Addr} (j : Nat) (h : r[j]? = some (rr p ks ds)) : Vd2 (.ref p) r ks ds := Or.inr ⟨p, j, rfl, h⟩
theorem Vd2.at {rf : Rs} {Hs H : Hp} {σ : L2.St} {v : V} (h : Vd2 x r ks ds) (s : SR T K Hs H σ g (r ++ rf)) (rv : DR K Hs v x) : ∃ a xs vs, v = .ref a ∧ H a = some (DictAt a xs) ∧ rKeys xs = ks ∧ Keyed K H xs ∧ Vals vs (rVals xs) ∧ DRs K Hs vs ds ∧ Keyed K Hs xs := by
  rcases h with e | ⟨p, j, e, hj⟩
  · subst e
    cases rv with
    | dr h1 h2 h3 h4 h5 => exact ⟨_, _, _, rfl, s.ex.keep _ _ h1 (fun _ z => nomatch z), h2, fun x hx => s.ex.st (h3 x hx), h4, h5, h3⟩
  · subst e
    cases rv
    obtain ⟨xs, vs, h1, h2, h3, h4, h5⟩ := s.rs _ (List.mem_append_left _ (List.mem_of_getElem? hj))
    exact ⟨p, xs, vs, rfl, h1, h2, fun x hx => s.ex.st (h3 x hx), h4, h5, h3⟩
theorem drs_ints' {Hs : Hp} : ∀ {l : List Int} {vs : List V}, DRs K Hs vs (l.map D.int) → vs = l.map V.int
  | [], _, .nil => rfl
  | _ :: _, _, .cons r t => by
    cases r
    rw [List.map_cons, drs_ints' t]
/-- a row's object -/
theorem row_at {Hs : Hp} {v : V} {k : List Int} (rv : DR K Hs v (rowD k)) : ∃ b, v = .ref b ∧ SqT K Hs b (k.map V.int) := by
  obtain ⟨b, xs, rfl, h1, h2⟩ := rv.tupI
  rw [drs_ints' h2] at h1
  exact ⟨b, rfl, h1⟩
/-! ### the rules -/
/-- x = {}, a dict of rows -/
theorem SR.ownR {Hs H : Hp} {σ : L2.St} (s : SR T K Hs H σ g r) {p : Addr} (hp : H p = none) : SR T K Hs (upd H p (DictAt p [])) σ g (rr p [] [] :: r) :=
  s.own (o := DictAt p []) hp dict_nt (x := rr p [] []) rfl ⟨[], [], upd_same, rfl, fun x hx => (nomatch hx), .nil, .nil⟩
theorem SR.putR {Hs H : Hp} {σ : L2.St} (s : SR T K Hs H σ g r) {j : Nat} {p b : Addr} {xs : List REnt} {vs : List V} {k : List Int} {v : V} {u : Value} (hj : r[j]? = some (rr p ks ds)) (hp : H p = some (DictAt p xs)) (h1 : rKeys xs = ks) (h2 : ∀ x ∈ xs, SqT K Hs x.2.1 (x.1.map V.int)) (h3 : Vals vs (rVals xs)) (h4 : DRs K Hs vs ds)
    (hb : SqT K Hs b (k.map V.int)) (rd : DR K Hs v d) (ru : RelV v u) : SR T K Hs (upd H p (DictAt p (storedH xs k b u))) σ g (r.set j (rr p (putK ks k) (putD ks ds k d))) := by
  refine s.mut (y := rr p (putK ks k) (putD ks ds k d)) (o := DictAt p (storedH xs k b u)) hj rfl rfl dict_nt ⟨_, putD ks vs k v, upd_same, by rw [keys_stored, h1], keyed_stored h2 hb, ?_, drs_putD h4 rd⟩
  rw [vals_stored, h1]
  exact vals_putD h3 ru
/-- len(d) -/
theorem ev_lenR (h : EvA T K tas g r [x] r1) (hv : Vd2 x r1 ks ds) : Ev T K (tCB (rLenR K) tas) g r (.int ((ks.length : Nat) : Int)) r1 := fun rf Hs H σ s Q q => h rf Hs H σ s _ fun vs Hs1 H1 e s1 rvs => by
  obtain ⟨v, rfl, rv⟩ := rvs.one
  obtain ⟨a, xs, us, rfl, a1, a2, a3, a4, a5, _⟩ := hv.at s1 rv
  refine ⟨a, xs, rfl, a1, a3, q _ _ _ e s1 ?_⟩
  rw [← a2]
  unfold rKeys
  rw [List.length_map]
  exact .int _
/-- k in d, k not in d -/
theorem od_inR {k : List Int} (hv : Vd2 x r ks ds) : OpD T K (rInR K) (rowD k) x g r (.bl (decide (k ∈ ks))) r := fun rf Hs H σ u v s ru rv Q q => by
  obtain ⟨b, rfl, hb⟩ := row_at ru
  obtain ⟨a, xs, us, rfl, a1, a2, a3, a4, a5, _⟩ := hv.at s rv
  refine ⟨a, b, xs, k, rfl, rfl, a1, a3, s.ex.st hb, q _ _ _ (Ext.refl _) s ?_⟩
  rw [at_mem, a2]
  exact .bl _
theorem od_ninR {k : List Int} (hv : Vd2 x r ks ds) : OpD T K (rNinR K) (rowD k) x g r (.bl (!decide (k ∈ ks))) r := fun rf Hs H σ u v s ru rv Q q => by
  obtain ⟨b, rfl, hb⟩ := row_at ru
  obtain ⟨a, xs, us, rfl, a1, a2, a3, a4, a5, _⟩ := hv.at s rv
  refine ⟨a, b, xs, k, rfl, rfl, a1, a3, s.ex.st hb, q _ _ _ (Ext.refl _) s ?_⟩
  rw [at_mem, a2]
  exact .bl _
end
end DL
/-! the data layer: making dicts of rows, sorting them; captured lambdas in tests -/
namespace DL
open PySem PySem.Spec PyProof.Rows L2 CmE RD LmX
section
variable (T : Tb) (K : PySem.W.Frag)
/-- a new dict of rows, one's own -/
def EvR2 (te : TE) (g : G) (r : Rs) (ks : List (List Int)) (ds : List D) (r' : Rs) : Prop := ∀ (rf : Rs) (Hs H : Hp) (σ : L2.St), SR T K Hs H σ g (r ++ rf) → ∀ Q : VK,
  (∀ p Hs' H', Ext T Hs Hs' → SR T K Hs' H' σ g (rr p ks ds :: (r' ++ rf)) → Q (.ref p) H') → te σ H Q
/-- a test that sees the frame around: g0 -/
def EvTJ (tt : L2.St → TT) (g0 g : G) (r : Rs) (b : Bool) (r' : Rs) : Prop := ∀ (rf : Rs) (Hs H : Hp) (σ0 σ : L2.St), SR T K Hs H σ0 g0 (r ++ rf) → SR T K Hs H σ g (r ++ rf) → ∀ Q : Bool → Hp → Prop,
  (∀ Hs' H', Ext T Hs Hs' → SR T K Hs' H' σ g (r' ++ rf) → Q b H') → tt σ0 σ H Q
end
section
variable {T : Tb} {K : PySem.W.Frag} {E : XK} {g g' g0 : G} {r r' r1 r2 r3 : Rs} {ta tb tc te tv tk td ty : TE} {t : TT} {x y z d : D} {ds es : List D} {tas : TA} {O : Out} {s2 : TS} {ti : TI} {tg : TG} {vs : List Nat} {ks : List (List Int)} {i : Nat}
theorem EvR2.ev (h : EvR2 T K te g r ks ds r') : Ev T K te g r (.dr ks ds) r' := fun rf Hs H σ s Q q => h rf Hs H σ s _ fun p Hs1 H1 e s1 => by
  obtain ⟨xs, us, h1, h2, h3, h4, h5⟩ := s1.rs (rr p ks ds) (List.mem_cons_self)
  obtain ⟨s2, e2⟩ := s1.freeze (j := 0) (x := rr p ks ds) rfl rfl h1
  exact q _ _ _ (e.trans e2) s2 (.dr upd_same h2 (fun x hx => e2.st (h3 x hx)) h4 (DRs.mono e2 ds h5))
theorem er_new : EvR2 T K tRNew g r [] [] r := fun rf Hs H σ s Q q => fun p hp => q p Hs _ (Ext.refl _) (s.ownR hp)
theorem sq_newR (h : EvR2 T K te g r ks ds r1) (h2 : ∀ p, StD T K E s2 (g.set i (some (.ref p))) (rr p ks ds :: r1) O) : StD T K E (tSeq (tAsg te (gName i)) s2) g r O := fun rf Hs H σ s En G =>
  h rf Hs H σ s _ fun p Hs1 H1 e s' => h2 p rf Hs1 H1 _ (s'.set (.ref p) i) En (G.ext e)
/-- d[row] = v, d one's own -/
theorem st_rput {p : Addr} {k : List Int} (j : Nat) (h : Ev T K tv g r d r1) (hd : Ev T K td g r1 (.ref p) r2) (hk : Ev T K ty g r2 (rowD k) r3) (hj : r3[j]? = some (rr p ks ds)) (hz : ks.length ≤ 100000)
    (h2 : O.nx g (r3.set j (rr p (putK ks k) (putD ks ds k d)))) : StD T K E (sRPut K td ty tv) g r O := fun rf Hs H σ s En G =>
  h rf Hs H σ s _ fun v Hs1 H1 e1 s1 rv => hd rf Hs1 H1 σ s1 _ fun xv Hs2 H2 e2 s2' rx => hk rf Hs2 H2 σ s2' _ fun yv Hs3 H3 e3 s3 ry => by
    cases rx
    obtain ⟨b, rfl, hb⟩ := row_at ry
    obtain ⟨xs, us, a1, a2, a3, a4, a5⟩ := s3.rs _ (List.mem_append_left _ (List.mem_of_getElem? hj))
    have hl : xs.length = ks.length := by rw [← a2]; unfold rKeys; rw [List.length_map]
    refine ⟨p, b, xs, k, rfl, rfl, a1, fun x hx => s3.ex.st (a3 x hx), s3.ex.st hb, by rw [sizeLine_eq]; omega, fun u ru => ?_⟩
    have s4 := s3.putR (get_app hj) a1 a2 a3 a4 a5 hb (DR.mono (e2.trans e3) d rv) ru
    rw [set_app hj] at s4
    exact G.nx _ _ _ _ _ h2 ((e1.trans e2).trans e3) s4
/-- d[row] -/
theorem od_ixR {k : List Int} {n : Nat} (hv : Vd2 x r ks ds) (hk : ks[n]? = some k) (hd : ds[n]? = some d) (hn : ks.Nodup) : OpD T K (rIxR K) x (rowD k) g r d r := fun rf Hs H σ u v s ru rv Q q => by
  obtain ⟨b, rfl, hb⟩ := row_at rv
  obtain ⟨a, xs, us, rfl, a1, a2, a3, a4, a5, _⟩ := hv.at s ru
  have hx : ∃ y, xs[n]? = some y ∧ y.1 = k := by
    rw [← a2] at hk
    unfold rKeys at hk
    rw [List.getElem?_map] at hk
    obtain ⟨y, h1, h2⟩ := Option.map_eq_some_iff.mp hk
    exact ⟨y, h1, h2⟩
  obtain ⟨⟨k', b', u'⟩, hy, rfl⟩ := hx
  have hat : atKey xs k' = some (b', u') := atKey_of_get (by rw [← a2] at hn; exact hn) hy
  obtain ⟨vv, g1, g2⟩ := a5.get hd
  have hu : (rVals xs)[n]? = some u' := by unfold rVals; rw [List.getElem?_map, hy]; rfl
  have hr : RelV vv u' := by
    have key : ∀ {l : List V} {m : List Value} {n : Nat} {a : V} {b : Value}, Vals l m → l[n]? = some a → m[n]? = some b → RelV a b := by
      intro l m n a b h
      induction h generalizing n with
      | nil => intro e; simp at e
      | cons r t ih =>
        cases n with
        | zero => intro e1 e2; cases e1; cases e2; exact r
        | succ n => intro e1 e2; exact ih (by simpa using e1) (by simpa using e2)
    exact key a4 g1 hu
  exact ⟨a, b, xs, k', vv, u', b', rfl, rfl, a1, a3, s.ex.st hb, hat, hr, q _ _ _ (Ext.refl _) s g2⟩
theorem wipe_wipe (u : List Nat) (τ : L2.St) : wipe (wipe τ u) u = wipe τ u := by
  apply List.ext_getElem?
  intro n
  by_cases hn : n ∈ u
  · have gN : ∀ (u : List Nat) (τ : L2.St), n ∈ u → (wipe τ u)[n]? = if n < τ.length then some none else none := by
      intro u
      induction u with
      | nil => intro τ h; exact nomatch h
      | cons a u ih =>
        intro τ h
        show ((wipe τ u).set a none)[n]? = _
        by_cases ha : a = n
        · subst ha
          rw [List.getElem?_set]
          simp only [wipe_length, if_true]
        · rw [List.getElem?_set_ne ha]
          rcases List.mem_cons.mp h with z | z
          · exact (ha z.symm).elim
          · exact ih τ z
    rw [gN u _ hn, gN u _ hn, wipe_length]
  · rw [wipe_out hn]
/-! ### dict(pairs) -/
def putsK : List (List Int) → List (List Int) → List (List Int)
  | acc, [] => acc
  | acc, k :: l => putsK (putK acc k) l
def putsD {α : Type} : List (List Int) → List α → List (List Int × α) → List α
  | _, acc, [] => acc
  | ks, acc, e :: l => putsD (putK ks e.1) (putD ks acc e.1 e.2) l
theorem pairs_at {Hs : Hp} : ∀ {es : List (List Int × D)} {xs : List V}, DRs K Hs xs (es.map fun e => D.tup [rowD e.1, e.2]) →
    ∃ (ps : List Addr) (ve : List VEnt), xs = ps.map V.ref ∧ Paired (fun p (e : VEnt) => SqT K Hs p [V.ref e.2.1, e.2.2] ∧ SqT K Hs e.2.1 (e.1.map V.int)) ps ve ∧ ve.map (fun e => e.1) = es.map (fun e => e.1) ∧ DRs K Hs (ve.map fun e => e.2.2) (es.map fun e => e.2)
  | [], _, .nil => ⟨[], [], rfl, .nil, rfl, .nil⟩
  | e :: es, _, .cons r t => by
    obtain ⟨ps, ve, rfl, h2, h3, h4⟩ := pairs_at t
    obtain ⟨p, ys, rfl, g1, g2⟩ := r.tupI
    obtain ⟨v, w, rfl, rv, rw'⟩ := g2.two
    obtain ⟨b, rfl, hb⟩ := row_at rv
    exact ⟨p :: ps, (e.1, b, w) :: ve, rfl, .cons ⟨g1, hb⟩ h2, by simp [h3], .cons rw' h4⟩
theorem puts_all {Hs : Hp} : ∀ {ve : List VEnt} {us : List Value} {es : List (List Int × D)} {xs : List REnt} {vs : List V} {ds : List D}, ve.map (fun e => e.1) = es.map (fun e => e.1) → DRs K Hs (ve.map fun e => e.2.2) (es.map fun e => e.2) → Vals (ve.map fun e => e.2.2) us → Vals vs (rVals xs) → DRs K Hs vs ds →
    rKeys (storedAllH xs (zipE ve us)) = putsK (rKeys xs) (es.map fun e => e.1) ∧ ∃ vs', Vals vs' (rVals (storedAllH xs (zipE ve us))) ∧ DRs K Hs vs' (putsD (rKeys xs) ds es)
  | [], us, [], xs, vs, ds, _, _, r, h1, h2 => by
    cases r
    exact ⟨rfl, vs, h1, h2⟩
  | [], _, e :: es, _, _, _, h, _, _, _, _ => by simp at h
  | v :: ve, _, [], _, _, _, h, _, _, _, _ => by simp at h
  | v :: ve, us, e :: es, xs, vs, ds, h, hd, r, h1, h2 => by
    rw [List.map_cons, List.map_cons] at h hd
    rw [List.map_cons] at r
    injection h with he ht
    cases hd with
    | cons rd hd =>
      cases r with
      | @cons _ u _ us' ru rt =>
        have k1 : rKeys (storedH xs v.1 v.2.1 u) = putK (rKeys xs) e.1 := by rw [keys_stored, he]
        have k2 : Vals (putD (rKeys xs) vs e.1 v.2.2) (rVals (storedH xs v.1 v.2.1 u)) := by rw [vals_stored, he]; exact vals_putD h1 ru
        have := puts_all (xs := storedH xs v.1 v.2.1 u) ht hd rt k2 (drs_putD (ks := rKeys xs) (k := e.1) h2 rd)
        rw [k1] at this
        exact this
theorem er_dict {es : List (List Int × D)} (h : EvA T K tas g r [x] r1) (hv : Vl x r1 (es.map fun e => D.tup [rowD e.1, e.2])) : EvR2 T K (tCB (rDictR K) tas) g r (putsK [] (es.map fun e => e.1)) (putsD [] [] es) r1 := fun rf Hs H σ s Q q => h rf Hs H σ s _ fun vs Hs1 H1 e s1 rvs => by
  obtain ⟨v, rfl, rv⟩ := rvs.one
  obtain ⟨a, xs, rfl, a1, a2⟩ := hv.at s1 rv
  obtain ⟨ps, ve, rfl, h2, h3, h4⟩ := pairs_at a2
  have up : ∀ {ps : List Addr} {ve : List VEnt}, Paired (fun p (e : VEnt) => SqT K Hs1 p [V.ref e.2.1, e.2.2] ∧ SqT K Hs1 e.2.1 (e.1.map V.int)) ps ve → Paired (fun p (e : VEnt) => SqT K H1 p [V.ref e.2.1, e.2.2] ∧ SqT K H1 e.2.1 (e.1.map V.int)) ps ve := by
    intro ps ve h
    induction h with
    | nil => exact .nil
    | cons a _ ih => exact .cons ⟨s1.ex.st a.1, s1.ex.st a.2⟩ ih
  refine ⟨a, ps, ve, rfl, Evl.sq_of a1, up h2, fun p us hp ru => ?_⟩
  obtain ⟨k1, vs', k2, k3⟩ := puts_all (xs := []) (vs := []) (ds := []) h3 h4 ru .nil .nil
  have kd : Keyed K Hs1 (storedAllH [] (zipE ve us)) := by
    refine keyed_all (fun x hx => (nomatch hx)) ?_
    have : ∀ {ps : List Addr} {ve : List VEnt} {us : List Value}, Paired (fun p (e : VEnt) => SqT K Hs1 p [V.ref e.2.1, e.2.2] ∧ SqT K Hs1 e.2.1 (e.1.map V.int)) ps ve → Keyed K Hs1 (zipE ve us) := by
      intro ps ve us h
      induction h generalizing us with
      | nil => intro x hx; simp [zipE] at hx
      | @cons p e ps ve a _ ih =>
        cases us with
        | nil => intro x hx; simp [zipE] at hx
        | cons u us =>
          intro x hx
          have hx : x = (e.1, e.2.1, u) ∨ x ∈ zipE ve us := by simpa [zipE] using hx
          rcases hx with z | z
          · rw [z]; exact a.2
          · exact ih x z
    exact this h2
  exact q p Hs1 _ e (s1.own (o := DictAt p _) hp dict_nt (x := rr p _ _) rfl ⟨_, vs', upd_same, k1, kd, k2, k3⟩)
/-! ### sorted(d) -/
theorem en_sortedR (h : EvA T K tas g r [x] r1) (hv : Vd2 x r1 ks ds) : EvN T K (tCB (rSortedR K) tas) g r ((srtR ks).map rowD) r1 := fun rf Hs H σ s Q q => h rf Hs H σ s _ fun vs Hs1 H1 e s1 rvs => by
  obtain ⟨v, rfl, rv⟩ := rvs.one
  obtain ⟨a, xs, us, rfl, a1, a2, a3, a4, a5, a6⟩ := hv.at s1 rv
  have hok := srtOk_rows ks
  have h1 : ((srtR ks).map rowD).Perm (ks.map rowD) := (isort_perm ks).map _
  have h2 : ((srtR ks).map rowD).Pairwise (fun a b => ltD b a = false) := by
    rw [List.pairwise_map]
    refine (isort_sorted lexI_swo ks).imp fun h => ?_
    rw [ltD_row]
    exact h
  have refs : DRs K Hs1 (xs.map fun x => V.ref x.2.1) (ks.map rowD) := by
    rw [← a2]
    unfold rKeys
    clear a1 a2 a3 a4 hok h1 h2
    induction xs with
    | nil => exact .nil
    | cons x xs ih => exact .cons (.tup (a6 x List.mem_cons_self) (DRs.ints x.1)) (ih fun y hy => a6 y (List.mem_cons_of_mem _ hy))
  refine ⟨a, xs, (ks.map rowD).map toPy, rfl, a1, a3, ?_, hok.1, fun d hd => ?_, fun zs p p1 p2 hn => ?_⟩
  · rw [← toPys_map]
    exact DRs.dp s1.ex _ (pls_of fun d hd => (hok.2 d hd).1) refs
  · obtain ⟨c, hc, rfl⟩ := List.mem_map.mp hd
    obtain ⟨k1, k2, k3, k4⟩ := hok.2 c hc
    exact ⟨toPy_none k1 k3, by rw [dep_eq]; exact k4⟩
  · obtain ⟨t, t1, t2⟩ := SrtD.perm_lift (fun p : V × D => (p.1, toPy p.2)) p1 ((xs.map fun x => V.ref x.2.1).zip (ks.map rowD)) (zip_py _ _)
    subst t2
    rw [List.pairwise_map] at p2
    have hl := refs.length
    have t3 : (t.map (·.2)).Perm (ks.map rowD) := by
      have := t1.map (fun p : V × D => p.2)
      rwa [List.map_snd_zip (by omega)] at this
    have t4 : (t.map (·.2)).Pairwise (fun a b => ltD b a = false) := List.pairwise_map.mpr p2
    have t5 : t.map (·.2) = (srtR ks).map rowD := by
      refine List.Perm.eq_of_pairwise (le := fun a b => ltD b a = false) (fun a b ha hb g1 g2 => ?_) t4 h2 (t3.trans h1.symm)
      have ma := t3.mem_iff.mp ha
      have mb := h1.mem_iff.mp hb
      exact ltD_anti (hok.1 _ (List.mem_map_of_mem ma) _ (List.mem_map_of_mem mb)) (hok.2 a ma).2.1 (hok.2 b mb).2.1 g2 g1
    have t6 := zip_drs (K := K) (Hs := Hs1) (t := t) fun p hp => drs_zip refs p (t1.mem_iff.mp hp)
    rw [t5] at t6
    rw [List.map_map]
    exact q p Hs1 _ e (s1.own (o := .lst _) hn True.intro (x := rl p _) rfl ⟨_, upd_same, t6⟩)
/-! ### {row: v for row in rows} -/
theorem er_dc {vs : List Nat} {ko : List (List Int)} {vo : List D} {ro : Rs} (h : EvI T K ti g r ds r1) (I : Nat → List (List Int) → List D → Rs → Prop) (h0 : I 0 [] [] r1) (hl : ds.length ≤ 100000)
    (hs : ∀ i d ks es r', ds[i]? = some d → I i ks es r' → ∃ g2 is, EvG T K tg is d (wipeG g vs) g2 ∧ (∀ i ∈ is, i ∈ vs) ∧ ∃ b r2, EvT T K t g2 r' b r2 ∧ (b = true → ∃ k e r3 r4, Ev T K tk g2 r2 (rowD k) r3 ∧ Ev T K tv g2 r3 e r4 ∧ I (i + 1) (putK ks k) (putD ks es k e) r4) ∧ (b = false → I (i + 1) ks es r2))
    (hd : ∀ ks es r', I ds.length ks es r' → ks = ko ∧ es = vo ∧ r' = ro) : EvR2 T K (tDcR K ti tg t tk tv vs) g r ko vo ro := fun rf Hs H σ s Q q =>
  h rf Hs H σ s _ fun J Hs1 H1 e s1 st => fun D hD => by
    have s1' : SR T K Hs1 (upd H1 D (DictAt D [])) σ g (r1 ++ (rr D [] [] :: rf)) := (s1.ownR hD).perm List.perm_middle.symm
    refine ⟨fun i m H' => m = ds.length - i ∧ i ≤ ds.length ∧ ∃ Hs' ks es r', Ext T Hs1 Hs' ∧ SR T K Hs' H' σ g (r' ++ (rr D ks es :: rf)) ∧ ks.length ≤ i ∧ I i ks es r', ⟨_, rfl, Nat.zero_le _, Hs1, [], [], r1, Ext.refl _, s1', Nat.le_refl _, h0⟩, ?_⟩
    rintro i m H' ⟨rfl, hi, Hs', ks, es, r', e', s', la, w⟩
    obtain ⟨a1, a2⟩ := st i Hs' H' e' s'.ex
    by_cases hlt : i < ds.length
    · obtain ⟨b1, b2⟩ := a2 ds[i] (List.getElem?_eq_getElem hlt)
      refine Or.inr ⟨b1, fun H2 => ∃ Hs2 ks es r2, Ext T Hs1 Hs2 ∧ SR T K Hs2 H2 σ g (r2 ++ (rr D ks es :: rf)) ∧ ks.length ≤ i + 1 ∧ I (i + 1) ks es r2, fun H2 ⟨Hs2, ks, es, r2, c1, c2, c3, c4⟩ => ⟨ds.length - (i + 1), by omega, rfl, hlt, Hs2, ks, es, r2, c1, c2, c3, c4⟩, fun v H2 y => ?_⟩
      obtain ⟨Hs2, c1, c2, c3⟩ := b2 v H2 y
      obtain ⟨g2, is, k1, k0, b, r2, k2, k3, k4⟩ := hs i _ ks es r' (List.getElem?_eq_getElem hlt) w
      have sw := (c3 _ _ _ s').wipe vs
      refine k1 Hs2 H2 _ _ v sw c2 _ fun σ3 s3 hw => ⟨?_, ?_⟩
      · rw [hw vs k0]
        exact wipe_wipe vs σ
      · refine k2 _ Hs2 H2 σ3 s3 _ fun Hs3 H3 e3 s4 => ?_
        cases b with
        | true =>
          obtain ⟨kk, el, r3, r4, f1, f2, f3⟩ := k3 rfl
          refine f1 _ Hs3 H3 σ3 s4 _ fun v2 Hs4 H4 e4 s5 rv => f2 _ Hs4 H4 σ3 s5 _ fun v3 Hs5 H5 e5 s6 rv3 => ?_
          have hm : rr D ks es ∈ r4 ++ (rr D ks es :: rf) := by simp
          obtain ⟨bb, rfl, hb⟩ := row_at rv
          obtain ⟨xs, us, q1, q2, q3, q4, q5⟩ := s6.rs _ hm
          have eA : Ext T Hs Hs5 := ((((e.trans e').trans c1).trans e3).trans e4).trans e5
          have hj : (r4 ++ (rr D ks es :: rf))[r4.length]? = some (rr D ks es) := by simp
          have hxl : xs.length = ks.length := by rw [← q2]; unfold rKeys; rw [List.length_map]
          refine ⟨bb, xs, kk, rfl, q1, fun x hx => s6.ex.st (q3 x hx), s6.ex.st (e5.st hb), by rw [sizeLine_eq]; omega, fun u ru => ⟨Hs5, putK ks kk, putD ks es kk el, r4, (((e'.trans c1).trans e3).trans e4).trans e5, ?_, by have := len_putK (ks := ks) (k := kk); omega, f3⟩⟩
          have s7 := s6.putR hj q1 q2 q3 q4 q5 (e5.st hb) rv3 ru
          have er : (r4 ++ (rr D ks es :: rf)).set r4.length (rr D (putK ks kk) (putD ks es kk el)) = r4 ++ (rr D (putK ks kk) (putD ks es kk el) :: rf) := by
            rw [List.set_append_right _ _ (Nat.le_refl _)]
            simp
          rw [er] at s7
          exact s.back eA s7
        | false =>
          have eA : Ext T Hs Hs3 := ((e.trans e').trans c1).trans e3
          exact ⟨Hs3, ks, es, r2, (e'.trans c1).trans e3, s.back eA s4, by omega, k4 rfl⟩
    · have he : i = ds.length := by omega
      subst he
      obtain ⟨z1, z2, z3⟩ := hd ks es r' w
      subst z1
      subst z2
      subst z3
      exact Or.inl ⟨a1 (Nat.le_refl _), q D Hs' H' (e.trans e') (s'.perm List.perm_middle)⟩
/-- {row: c for row in rows} -/
def nubR (l : List (List Int)) : List (List Int) := putsK [] l
theorem er_dcT {vs : List Nat} {rows : List (List Int)} (h : EvI T K ti g r (rows.map rowD) r1) (hl : rows.length ≤ 100000)
    (hs : ∀ (i : Nat) row, rows[i]? = some row → ∃ g2 is, EvG T K tg is (rowD row) (wipeG g vs) g2 ∧ (∀ i ∈ is, i ∈ vs) ∧ Ev T K tk g2 r1 (rowD row) r1 ∧ Ev T K tv g2 r1 d r1) : ∃ es, EvR2 T K (tDcR K ti tg tYes tk tv vs) g r (nubR rows) es r1 := by
  let f : Nat → List D := fun i => putsD [] [] ((rows.take i).map fun k => (k, d))
  refine ⟨f rows.length, er_dc h (fun i ks es r' => ks = putsK [] (rows.take i) ∧ es = f i ∧ r' = r1) ⟨rfl, rfl, rfl⟩ (by rw [List.length_map]; exact hl) ?_ ?_⟩
  · rintro i dd ks es r' hd ⟨rfl, rfl, rfl⟩
    rw [List.getElem?_map] at hd
    obtain ⟨row, hr, rfl⟩ := Option.map_eq_some_iff.mp hd
    obtain ⟨g2, is, h1, h2, h3, h4⟩ := hs i row hr
    have et : rows.take (i + 1) = rows.take i ++ [row] := by rw [List.take_succ, hr]; rfl
    have pk : ∀ (a b : List (List Int)) (acc : List (List Int)), putsK acc (a ++ b) = putsK (putsK acc a) b := by
      intro a b
      induction a with
      | nil => intro acc; rfl
      | cons x a ih => intro acc; exact ih _
    have pd : ∀ (a : List (List Int × D)) (b : List (List Int × D)) (ks : List (List Int)) (acc : List D), putsD ks acc (a ++ b) = putsD (putsK ks (a.map fun e => e.1)) (putsD ks acc a) b := by
      intro a b
      induction a with
      | nil => intro ks acc; rfl
      | cons x a ih => intro ks acc; exact ih _ _
    refine ⟨g2, is, h1, h2, true, _, et_yes, fun _ => ⟨row, d, _, _, h3, h4, ?_, ?_, rfl⟩, fun z => by cases z⟩
    · rw [et, pk]
      rfl
    · show _ = putsD [] [] ((rows.take (i + 1)).map fun k => (k, d))
      rw [et, List.map_append, pd]
      rw [List.map_map]
      show _ = putsD (putsK [] ((rows.take i).map fun x => x)) _ [(row, d)]
      rw [List.map_id']
      rfl
  · rintro ks es r' ⟨rfl, rfl, rfl⟩
    rw [List.length_map, List.take_length]
    exact ⟨rfl, rfl, rfl⟩
/-! ### tests that see the frame around -/
theorem en_lcJ0 {vs : List Nat} {tt : L2.St → TT} (h : EvI T K ti g r ds r1) (hl : ds.length ≤ 100000)
    (hs : ∀ (i : Nat) d, ds[i]? = some d → ∃ g2 is, EvG T K tg is d (wipeG g vs) g2 ∧ (∀ i ∈ is, i ∈ vs) ∧ EvTJ T K tt g g2 r1 false r1) : EvN T K (tLcJ ti tg tt te vs) g r [] r1 := fun rf Hs H σ s Q q =>
  h rf Hs H σ s _ fun J Hs1 H1 e s1 st => fun D hD => by
    have s1' : SR T K Hs1 (upd H1 D (.lst [])) σ g (r1 ++ (rl D [] :: rf)) :=
      (s1.own (o := .lst []) hD True.intro (x := rl D []) rfl ⟨[], upd_same, .nil⟩).perm List.perm_middle.symm
    refine ⟨fun i m H' => m = ds.length - i ∧ i ≤ ds.length ∧ ∃ Hs', Ext T Hs1 Hs' ∧ SR T K Hs' H' σ g (r1 ++ (rl D [] :: rf)), ⟨_, rfl, Nat.zero_le _, Hs1, Ext.refl _, s1'⟩, ?_⟩
    rintro i m H' ⟨rfl, hi, Hs', e', s'⟩
    obtain ⟨a1, a2⟩ := st i Hs' H' e' s'.ex
    by_cases hlt : i < ds.length
    · obtain ⟨b1, b2⟩ := a2 ds[i] (List.getElem?_eq_getElem hlt)
      refine Or.inr ⟨b1, fun H2 => ∃ Hs2, Ext T Hs1 Hs2 ∧ SR T K Hs2 H2 σ g (r1 ++ (rl D [] :: rf)), fun H2 ⟨Hs2, c1, c2⟩ => ⟨ds.length - (i + 1), by omega, rfl, hlt, Hs2, c1, c2⟩, fun v H2 y => ?_⟩
      obtain ⟨Hs2, c1, c2, c3⟩ := b2 v H2 y
      obtain ⟨g2, is, k1, k0, k2⟩ := hs i _ (List.getElem?_eq_getElem hlt)
      have s2 := c3 _ _ _ s'
      refine k1 Hs2 H2 _ _ v (s2.wipe vs) c2 _ fun σ3 s3 hw => ⟨?_, k2 _ Hs2 H2 σ σ3 s2 s3 _ fun Hs3 H3 e3 s4 => ?_⟩
      · rw [hw vs k0]
        exact wipe_wipe vs σ
      · exact ⟨Hs3, (e'.trans c1).trans e3, s.back (((e.trans e').trans c1).trans e3) s4⟩
    · exact Or.inl ⟨a1 (by omega), q D Hs' H' (e.trans e') (s'.perm List.perm_middle)⟩
/-- told(f) == 'X', f a lambda that raises when it is read as the frame around stands -/
theorem ej_told {Gd : LInfo → (XK → TE) → Prop} {C CS : Addr} {ret : Str} {I : LInfo} {t : XK → TE} (h : g[i]? = some (some (.lam I))) (B : Gd I t) (hx : PySem.W.exmOne K (.ref C) (.ref CS) = some true) (hb : ∀ E : XK, EvX T K E (t E) g0 r C r) :
    EvTJ T K (fun σ0 => tTest (tOp rNe (LmX.tToldJ σ0 Gd K CS ret (tCons (tVar i) tNil)) (tC (.str ret)))) g0 g r false r := fun rf Hs H σ0 σ s0 s Q q => by
  obtain ⟨v, h1, h2⟩ := s.sl i _ h
  cases h2 with
  | @lam f c _ b1 b2 =>
    refine ⟨_, h1, f, c, I, t, rfl, s.ex.keep _ _ b1 lo_ne, s.ex.keep _ _ b2 LamX.codeO_ne, B, hb _ rf Hs H σ0 s0 _ fun Hs2 H2 e2 s2 => ⟨true, hx, fun _ => ?_, fun z => by cases z⟩⟩
    refine ⟨by simp [scal], ⟨false, by simp, q Hs2 H2 e2 (s.back e2 s2)⟩⟩
end
end DL
namespace Bs
open PySem PySem.Spec PyProof.Rows L2 DL GX GxR
def top (i : Nat) : Stmt := PySem.Challenge.pw_bellstack_k03_methods_and_their_courses.main.body.getD i (.Pass ⟨0, 0, 0, 0⟩)


abbrev s_rounds : Stmt := top 7
abbrev s_check_row : Stmt := top 8
abbrev s_permuted : Stmt := top 9
abbrev s_undone : Stmt := top 10
abbrev s_check_places : Stmt := top 13
abbrev s_changed : Stmt := top 14
abbrev s_changes_of : Stmt := top 15
abbrev s_plain_changes : Stmt := top 16
abbrev s_places_of : Stmt := top 17
abbrev s_Method___init__ : Stmt := inClass (top 19) 0
abbrev s_Method_lead : Stmt := inClass (top 19) 1
abbrev s_Method_head : Stmt := inClass (top 19) 2
abbrev s_Method_course : Stmt := inClass (top 19) 3
abbrev s_Method_leads : Stmt := inClass (top 19) 4
abbrev s_Method_is_true : Stmt := inClass (top 19) 5
abbrev s_Method_hunters : Stmt := inClass (top 19) 6
abbrev s_Method_path : Stmt := inClass (top 19) 7
abbrev s_Method_is_even_sided : Stmt := inClass (top 19) 8
abbrev s_Method_most_blows : Stmt := inClass (top 19) 9
abbrev s_Method_kind : Stmt := inClass (top 19) 10
abbrev s_false_heads : Stmt := top 20
abbrev s__law_dice : Stmt := top 22
abbrev s__law_roll : Stmt := top 23
abbrev s__law_rounds : Stmt := top 24
abbrev s__law_told : Stmt := top 25
abbrev s__law_changed : Stmt := top 26
abbrev s__law_changes : Stmt := top 27
abbrev s__law_lead : Stmt := top 28
abbrev s__law_course : Stmt := top 29
abbrev s__law_kind : Stmt := top 30
abbrev s__law_blows : Stmt := top 31
abbrev s_law : Stmt := top 32
local macro_rules | `(tactic| walk_at "e1") => `(tactic| first
  | with_reducible exact ev_int | with_reducible exact ev_str | with_reducible exact ev_bl | with_reducible exact ev_non | with_reducible exact ev_ref
  | with_reducible exact ea_nil | with_reducible exact eo_none | with_reducible exact vl_f | with_reducible exact vs_t | with_reducible exact vs_f | with_reducible exact vd_f | with_reducible exact et_yes
  | ((with_reducible apply ev_var); exact rfl)
  | ((with_reducible apply ev_varW); exact rfl)
  | with_reducible apply ea_cons | with_reducible apply eo_some
  | with_reducible exact od_I0i | with_reducible exact od_I0b
  | with_reducible exact od_eqI | with_reducible exact od_neI | with_reducible exact od_eqS | with_reducible exact od_neS | with_reducible exact od_eqB | with_reducible exact od_neB
  | with_reducible apply ev_op | with_reducible apply ev_tup | with_reducible apply ev_neg | with_reducible apply en_lst
  | with_reducible apply et_test | with_reducible apply et_not | with_reducible apply et_B
  | ((with_reducible apply ev_cb); (with_reducible apply ea_cons))
  | with_reducible exact ca_abs | with_reducible exact ca_intI | with_reducible exact ca_intB | with_reducible apply ca_len | with_reducible apply ca_lenS
  | with_reducible apply ev_chain
  | walk_at "call")
local macro_rules | `(tactic| walk_at "ev") => `(tactic| repeat walk_at "e1")

structure Bi (mg : Str → Option Value) : Prop where
  tuple : mg "tuple" = none
  range : mg "range" = none
  sorted : mg "sorted" = none
  len : mg "len" = none
  any : mg "any" = none
  list : mg "list" = none
  abs : mg "abs" = none
  int : mg "int" = none
  sum : mg "sum" = none
  zip : mg "zip" = none
  enumerate : mg "enumerate" = none
  min : mg "min" = none
  max : mg "max" = none
  dict : mg "dict" = none
section
variable {P : Program} {w : World} {K : PySem.W.Frag} {mg : Str → Option Value} {base : Heap} {T : Tb} {cRow cPl : Addr} {f c Pt : Addr} {fd : FuncData} {uS : Value}
theorem sc_rounds : FnScope ["bells"] ["bells"] (defScope s_rounds) := ⟨rfl, rfl, rfl, by decide +kernel, rfl, by decide +kernel, by decide +kernel⟩
theorem ok_rounds (F : Fun K "rounds" "rounds" s_rounds f fd) (B : Bi mg) (e_RowError : Er K mg "RowError" cRow) : FnOk P w K mg base (L2.CX P w) 1 f fd ["bells"] (spR T K 1 (R_rounds cRow)) := by
  refine F.okX sc_rounds spR_len (fun cdv A outer s H vs Q E hr h => ⟨_, (pss_cons (ps_if (pt_not (pt_chain op_le op_le pe_int (pv 0) pe_int)) (pss_one (ps_raise rfl (takes_of (E := E) rfl rfl rfl rfl) (pmk_own PySem.F.excBase_ValueError e_RowError.x e_RowError.g e_RowError.k (raises_own e_RowError.b e_RowError.t) (by rfl)))) pss_nil)
      (pss_one (ps_ret (pe_tupRg rfl (by rfl) B.tuple (prg_2 (by rfl) B.range pe_int (pe_op op_add (pv 0) pe_int)))))), ?_⟩)
  refine keeps h (by decide) ?_
  rintro ds r o hl ⟨n, hn, rfl, rfl, rfl⟩
  refine sq_if (et_not (et_test (ev_chain ev_int (ev_var rfl) od_I0b (fun _ => ev_int) (fun _ => od_I0b)))) (fun hb => ?_) (fun hb => ?_)
  · have hn2 : ¬ (3 ≤ n ∧ n ≤ 12) := by simp at hb; omega
    refine sq_raise ?_
    rw [oc_n hn2]
    exact ⟨rfl, rfl⟩
  · have hn2 : 3 ≤ n ∧ n ≤ 12 := by simp at hb; omega
    refine sq_next (st_ret (ev_tupRg (er_2 ev_int (ev_op (ev_var rfl) ev_int od_I0i)) (by omega) (by omega)) ?_)
    rw [oc_y hn2, rg_rng]
    exact ⟨rfl, rfl⟩
theorem sc_check_row : FnScope ["row"] ["row"] (defScope s_check_row) := ⟨rfl, rfl, rfl, by decide +kernel, rfl, by decide +kernel, by decide +kernel⟩
theorem ok_check_row (F : Fun K "check_row" "check_row" s_check_row f fd) (B : Bi mg) (e_RowError : Er K mg "RowError" cRow) (c_rounds : Cal P w K mg base T "rounds" 1 ["bells"] (R_rounds cRow)) : FnOk P w K mg base (L2.CX P w) 2 f fd ["row"] (spR T K 1 (R_check_row cRow)) := by
  obtain ⟨f_r, fd_r, o_rounds, m_rounds, k_rounds, b_rounds⟩ := c_rounds.ex
  refine F.okX sc_check_row spR_len (fun cdv A outer s H vs Q E hr h => ⟨_, (pss_one (ps_if (pt_cmpR (r := rNeD K) (op_neD hr.units) (pe_tupX (by rfl) B.tuple (pe_callB (r := rSortedX K) cr_sortedX (by rfl) B.sorted (by decide +kernel) (pa_cons (pv 0) pa_nil))) (pe_call o_rounds (hr.mono (by decide)) (by rfl) m_rounds k_rounds b_rounds .nil (passes_call (takes_of (E := E) rfl rfl rfl rfl) (fun _ _ _ _ h => h)) (pa_cons (pe_callB (r := rLenX K) call_len (by rfl) B.len PySem.boot_len (pa_cons (pv 0) pa_nil)) pa_nil)) (nomark _)) (pss_one (ps_raise rfl (takes_of (E := E) rfl rfl rfl rfl) (pmk_own PySem.F.excBase_ValueError e_RowError.x e_RowError.g e_RowError.k (raises_own e_RowError.b e_RowError.t) (by rfl)))) pss_nil)), ?_⟩)
  refine keeps h (by decide) ?_
  rintro ds r o hl ⟨l, hn, rfl, rfl, rfl⟩
  have e1 : Ev T K (tThen (tCB (rSortedX K) (tCons (tVar 0) tNil)) (kTupX K)) [some (rowD l)] [] (rowD (srt l)) [] := ev_tux (ev_tupX (en_sorted (ea_cons (ev_var rfl) ea_nil) vs_t).ev vl_f)
  have e2 : ∀ E : XK, EvA T K (tCons (tCB _ (tCons (tVar 0) tNil)) tNil) [some (rowD l)] [] [.int ((l.map D.int).length : Int)] [] := fun _ => ea_cons (ev_cb (ea_cons (ev_var rfl) ea_nil) (ca_len vs_t)) ea_nil
  by_cases h3 : 3 ≤ l.length ∧ l.length ≤ 12
  · have e3 := ev_callC (E := E) (n := 1) (R := R_rounds cRow) (K := K) (T := T) ⟨l.length, hn, by rw [List.length_map], rfl, (oc_y h3).symm⟩ (e2 E) rfl
    refine st_if (et_test (ev_op e1 e3 (od_neD vd_f vd_f (sh_row _) (sh_row _)))) (fun hb => ?_) (fun hb => ?_)
    · have hg : ¬ good l := fun g => by
        rw [eq_row, g.2.2] at hb
        simp at hb
      refine st_raise ?_
      rw [oc_n hg]
      exact ⟨rfl, rfl⟩
    · have hg : good l := ⟨h3.1, h3.2, by rw [eq_row] at hb; simpa using hb⟩
      refine st_next ?_
      rw [oc_y hg]
      exact ⟨rfl, rfl⟩
  · have hg : ¬ good l := fun g => h3 ⟨g.1, g.2.1⟩
    have e3 := ex_callC (E := E) (n := 1) (R := R_rounds cRow) (K := K) (T := T) ⟨l.length, hn, by rw [List.length_map], rfl, (oc_n h3).symm⟩ (e2 E) rfl
    refine st_exT (ex_opR e1 e3) ?_
    rw [oc_n hg]
    exact ⟨rfl, rfl⟩
/-- the call of check_row on a row -/
theorem chk {E : XK} {f0 : Addr} {g : G} {ta : TE} {r1 r2 : Rs} {l : List Int} (hl : l.length ≤ 1000) (hg : good l) (h : Ev T K ta g r1 (rowD l) r2) : Ev T K (tCall (spR T K 1 (R_check_row cRow)) [] E (tCons ta tNil)) g r1 .non r2 :=
  ev_callC (n := 1) ⟨l, hl, rfl, rfl, (oc_y hg).symm⟩ (ea_cons h ea_nil) rfl
theorem chkX {E : XK} {f0 : Addr} {g : G} {ta : TE} {r1 r2 : Rs} {l : List Int} (hl : l.length ≤ 1000) (hg : ¬ good l) (h : Ev T K ta g r1 (rowD l) r2) : EvX T K E (tCall (spR T K 1 (R_check_row cRow)) [] E (tCons ta tNil)) g r1 cRow r2 :=
  ex_callC (n := 1) ⟨l, hl, rfl, rfl, (oc_n hg).symm⟩ (ea_cons h ea_nil) rfl



def R_permuted (C : Addr) : Rel := fun ds r o => ∃ a b : List Int, a.length ≤ 1000 ∧ b.length ≤ 1000 ∧ ds = [rowD a, rowD b] ∧ r = [] ∧ o = oc (good a ∧ good b ∧ a.length = b.length) (rowD (perm a b)) C
def R_undone (C : Addr) : Rel := fun ds r o => ∃ (a : List Int) (x : D), a.length ≤ 1000 ∧ ds = [x] ∧ (x = .tux (a.map D.int) ∨ (x = rowD a ∧ ¬ good a)) ∧ r = [] ∧ o = oc (good a) (rowD (und a)) C
theorem sc_permuted : FnScope ["row", "other", "bell"] ["row", "other"] (defScope s_permuted) := ⟨rfl, rfl, rfl, by decide +kernel, rfl, by decide +kernel, by decide +kernel⟩
theorem ok_permuted (F : Fun K "permuted" "permuted" s_permuted f fd) (hc : fd.code = .ref c) (B : Bi mg) (TBpermuted : GxR.TabB base mg c Pt) (hP : Pt ∈ T.gs) (e_RowError : Er K mg "RowError" cRow) (c_check_row : Cal P w K mg base T "check_row" 2 ["row"] (R_check_row cRow)) : FnOk P w K mg base (L2.CX P w) 3 f fd ["row", "other"] (spR T K 2 (R_permuted cRow)) := by
  obtain ⟨f_r, fd_r, o_check_row, m_check_row, k_check_row, b_check_row⟩ := c_check_row.ex
  refine okC F hc sc_permuted spR_len (fun A outer s H vs Q E hr h => ⟨_, (pss_cons (ps_expr (pe_call o_check_row (hr.mono (by decide)) (by rfl) m_check_row k_check_row b_check_row .nil (passes_call (takes_of (E := E) rfl rfl rfl rfl) (fun _ _ _ _ h => h)) (pa_cons (pv 0) pa_nil)))
      (pss_cons (ps_expr (pe_call o_check_row (hr.mono (by decide)) (by rfl) m_check_row k_check_row b_check_row .nil (passes_call (takes_of (E := E) rfl rfl rfl rfl) (fun _ _ _ _ h => h)) (pa_cons (pv 1) pa_nil)))
      (pss_cons (ps_if (pt_cmpR op_ne (pe_callB (r := rLenX K) call_len (by rfl) B.len PySem.boot_len (pa_cons (pv 0) pa_nil)) (pe_callB (r := rLenX K) call_len (by rfl) B.len PySem.boot_len (pa_cons (pv 1) pa_nil)) (nomark _)) (pss_one (ps_raise rfl (takes_of (E := E) rfl rfl rfl rfl) (pmk_own PySem.F.excBase_ValueError e_RowError.x e_RowError.g e_RowError.k (raises_own e_RowError.b e_RowError.t) (by rfl)))) pss_nil)
      (pss_one (ps_ret (pe_tupGen hr (by rfl) B.tuple TBpermuted rfl (gs_by (by kernel_rfl)) (pv 1) iw_tup (gp_ixT (gp_var 0 (by rfl) (by rfl)) (gp_sub gp_item gp_int) (fun _ _ => rfl)) (fun _ => rfl))))))), ?_⟩)
  refine keeps h (by decide) ?_
  rintro ds r o hl ⟨a, b, ha, hb, rfl, rfl, rfl⟩
  by_cases ga : good a
  · refine sq_drop (chk (f0 := f_r) ha ga (ev_var rfl)) ?_
    by_cases gb : good b
    · refine sq_drop (chk (f0 := f_r) hb gb (ev_var rfl)) ?_
      refine sq_if (et_test (ev_op (ev_cb (ea_cons (ev_var rfl) ea_nil) (ca_len vs_t)) (ev_cb (ea_cons (ev_var rfl) ea_nil) (ca_len vs_t)) od_neI)) (fun hq => ?_) (fun hq => ?_)
      · refine sq_raise ?_
        have hn : ¬ (good a ∧ good b ∧ a.length = b.length) := fun z => by simp at hq; omega
        rw [oc_n hn]
        exact ⟨rfl, rfl⟩
      · have he : a.length = b.length := by simp at hq; omega
        refine sq_next (st_ret (ev_tux (ev_tupGen (ds := b.map D.int) (fd := fun d => match d with | .int i => .int (a.getD (i - 1).toNat 0) | _ => .non) hP (ev_var rfl) iwd_tup (fun d hd => ?_) (by simp; omega))) ?_)
        · obtain ⟨i, hi, rfl⟩ := List.mem_map.mp hd
          have hm := (good_mem gb).mp hi
          refine el_ixT (el_var rfl) (el_sub el_item el_int) (atI_of (by omega) ?_)
          have hlt : (i - 1).toNat < a.length := by omega
          show _ = some (D.int (a.getD (i - 1).toNat 0))
          rw [List.getElem?_map, List.getD_eq_getElem?_getD, List.getElem?_eq_getElem hlt]
          rfl
        · rw [oc_y ⟨ga, gb, he⟩]
          refine ⟨?_, rfl⟩
          unfold rowD perm
          rw [List.map_map, List.map_map]
          rfl
    · refine sq_exE (chkX (f0 := f_r) hb gb (ev_var rfl)) ?_
      rw [oc_n fun q => gb q.2.1]
      exact ⟨rfl, rfl⟩
  · refine sq_exE (chkX (f0 := f_r) ha ga (ev_var rfl)) ?_
    rw [oc_n fun q => ga q.1]
    exact ⟨rfl, rfl⟩
theorem sc_undone : FnScope ["row", "bell"] ["row"] (defScope s_undone) := ⟨rfl, rfl, rfl, by decide +kernel, rfl, by decide +kernel, by decide +kernel⟩
theorem ok_undone (F : Fun K "undone" "undone" s_undone f fd) (hc : fd.code = .ref c) (B : Bi mg) (TBundone : GxR.TabB base mg c Pt) (hP : Pt ∈ T.gs) (c_rounds : Cal P w K mg base T "rounds" 1 ["bells"] (R_rounds cRow)) (c_check_row : Cal P w K mg base T "check_row" 2 ["row"] (R_check_row cRow)) : FnOk P w K mg base (L2.CX P w) 3 f fd ["row"] (spR T K 1 (R_undone cRow)) := by
  obtain ⟨f_r, fd_r, o_check_row, m_check_row, k_check_row, b_check_row⟩ := c_check_row.ex
  obtain ⟨f_r2, fd_r2, o_rounds, m_rounds, k_rounds, b_rounds⟩ := c_rounds.ex
  refine okC F hc sc_undone spR_len (fun A outer s H vs Q E hr h => ⟨_, (pss_cons (ps_expr (pe_call o_check_row (hr.mono (by decide)) (by rfl) m_check_row k_check_row b_check_row .nil (passes_call (takes_of (E := E) rfl rfl rfl rfl) (fun _ _ _ _ h => h)) (pa_cons (pv 0) pa_nil)))
      (pss_one (ps_ret (pe_tupGen hr (by rfl) B.tuple TBundone rfl (gs_by (by kernel_rfl)) (pe_call o_rounds (hr.mono (by decide)) (by rfl) m_rounds k_rounds b_rounds .nil (passes_call (takes_of (E := E) rfl rfl rfl rfl) (fun _ _ _ _ h => h)) (pa_cons (pe_callB (r := rLenX K) call_len (by rfl) B.len PySem.boot_len (pa_cons (pv 0) pa_nil)) pa_nil)) iw_tup (gp_add (gp_idxT (gp_var 0 (by rfl) (by rfl)) gp_item (fun _ => rfl) (fun _ => rfl) rfl (fun _ => rfl) (fun _ => rfl) (fun _ => rfl)) gp_int) (fun _ => rfl))))), ?_⟩)
  refine keeps h (by decide) ?_
  rintro ds r o hl ⟨a, x, ha, rfl, hx, rfl, rfl⟩
  by_cases ga : good a
  · have hx' : x = .tux (a.map D.int) := by
      rcases hx with z | z
      · exact z
      · exact (z.2 ga).elim
    subst hx'
    refine sq_drop (chk (f0 := f_r) ha ga (ev_varW rfl)) ?_
    have e0 : Ev T K (tCall (spR T K 1 (R_rounds cRow)) [] E (tCons (tCB _ (tCons (tVar 0) tNil)) tNil)) [some (.tux (a.map D.int)), none] [] (rowD (rng a.length)) [] :=
      ev_callC (n := 1) ⟨a.length, ha, by rw [List.length_map], rfl, (oc_y ⟨ga.1, ga.2.1⟩).symm⟩ (ea_cons (ev_cb (ea_cons (ev_varW rfl) ea_nil) (ca_len vs_t)) ea_nil) rfl
    refine st_ret (ev_tux (ev_tupGen (ds := (rng a.length).map D.int) (fd := fun d => match d with | .int i => .int (((a.idxOf i : Nat) : Int) + 1) | _ => .non) hP e0 iwd_tup (fun d hd => ?_) (by simp [rng_len]; omega))) ?_
    · obtain ⟨i, hi, rfl⟩ := List.mem_map.mp hd
      have hm : i ∈ a := (good_perm ga).mem_iff.mpr hi
      exact el_add (el_idxT (el_var rfl) el_item hm) el_int
    · rw [oc_y ga]
      refine ⟨?_, rfl⟩
      unfold rowD und
      rw [List.map_map, List.map_map]
      rfl
  · have e : Ev T K (tVar 0) ([x].map some ++ List.replicate (["row", "bell"].length - 1) none) [] (rowD a) [] := by
      rcases hx with z | ⟨z, _⟩
      · subst z; exact ev_varW rfl
      · subst z; exact ev_var rfl
    refine sq_exE (chkX (f0 := f_r) ha ga e) ?_
    rw [oc_n ga]
    exact ⟨rfl, rfl⟩



def R_check_places (cRow cPl : Addr) : Rel := fun ds r o => ∃ (n : Nat) (p : List Int), n ≤ 1000 ∧ p.length ≤ 1000 ∧ ds = [rowD p, .int n] ∧ r = [] ∧ o = if 3 ≤ n ∧ n ≤ 12 then oc (okP n p) .non cPl else .err cRow []
theorem sc_check_places : FnScope ["places", "bells", "place", "ends", "one", "other"] ["places", "bells"] (defScope s_check_places) := ⟨rfl, rfl, rfl, by decide +kernel, rfl, by decide +kernel, by decide +kernel⟩
theorem ok_check_places (F : Fun K "check_places" "check_places" s_check_places f fd) (hc : fd.code = .ref c) (B : Bi mg) (TBcheck_places : GxR.TabB base mg c Pt) (hP : Pt ∈ T.gs) (e_PlaceError : Er K mg "PlaceError" cPl) (c_rounds : Cal P w K mg base T "rounds" 1 ["bells"] (R_rounds cRow)) : FnOk P w K mg base (L2.CX P w) 3 f fd ["places", "bells"] (spR T K 2 (R_check_places cRow cPl)) := by
  obtain ⟨f_r, fd_r, o_rounds, m_rounds, k_rounds, b_rounds⟩ := c_rounds.ex
  refine okC F hc sc_check_places spR_len (fun A outer s H vs Q E hr h => ⟨_, (pss_cons (ps_expr (pe_call o_rounds (hr.mono (by decide)) (by rfl) m_rounds k_rounds b_rounds .nil (passes_call (takes_of (E := E) rfl rfl rfl rfl) (fun _ _ _ _ h => h)) (pa_cons (pv 1) pa_nil)))
      (pss_cons (ps_if (pt_val (GY.pe_anyGen hr (by rfl) B.any TBcheck_places rfl (GX.gs_by (by kernel_rfl)) (pv 0) GX.iw_tup (GY.gp_not (GY.gp_chain GY.cmp_le GY.cmp_le GY.gp_int (GY.gp_item 0 (by rfl)) (GY.gp_var 1 (by rfl) (by rfl)) (by rfl))) (fun _ => rfl))) (pss_one (ps_raise rfl (takes_of (E := E) rfl rfl rfl rfl) (pmk_own PySem.F.excBase_ValueError e_PlaceError.x e_PlaceError.g e_PlaceError.k (raises_own e_PlaceError.b e_PlaceError.t) (by rfl)))) pss_nil)
      (pss_cons (ps_set (i := 3) sc_check_places.nd rfl (by first | exact Or.inl rfl | exact Or.inr rfl) (pe_op op_catA (pe_op op_catA (pe_tup (pa_cons pe_int pa_nil)) (pe_tupleOf (by rfl) B.tuple (pv 0))) (pe_tup (pa_cons (pe_op op_add (pv 1) pe_int) pa_nil))))
      (pss_one (ps_if (pt_val (GY.pe_anyZip hr (by rfl) B.any TBcheck_places rfl (GX.gs_by (by kernel_rfl)) (by kernel_rfl) (by decide) (by rfl) B.zip (pa_cons (pv 3) (pa_cons (pe_slice (r := rSlA K) sl_tupA (pv 3) (po_some pe_int) po_none) pa_nil)) (GY.gp_or (GY.gp_cmp GY.cmp_ge (GY.gp_item 0 (by rfl)) (GY.gp_item 1 (by rfl)) (by rfl)) (GY.gp_one (GY.gp_cmp GY.cmp_eq (GY.gp_bin GY.bin_mod (GY.gp_bin GY.bin_sub (GY.gp_item 1 (by rfl)) (GY.gp_item 0 (by rfl))) GY.gp_int) GY.gp_int (by rfl)))) (fun _ => rfl))) (pss_one (ps_raise rfl (takes_of (E := E) rfl rfl rfl rfl) (pmk_own PySem.F.excBase_ValueError e_PlaceError.x e_PlaceError.g e_PlaceError.k (raises_own e_PlaceError.b e_PlaceError.t) (by rfl)))) pss_nil))))), ?_⟩)
  refine keeps h (by decide) ?_
  rintro ds r o hl ⟨n, p, hn0, hp, rfl, rfl, rfl⟩
  by_cases hn : 3 ≤ n ∧ n ≤ 12
  rotate_left
  · rw [if_neg hn]
    exact sq_exE (ex_callC (n := 1) (R := R_rounds cRow) ⟨n, hn0, rfl, rfl, (oc_n hn).symm⟩ (ea_cons (ev_var rfl) ea_nil) rfl) ⟨rfl, rfl⟩
  rw [if_pos hn]
  have e0 : Ev T K (tCall (spR T K 1 (R_rounds cRow)) [] E (tCons (tVar 1) tNil)) [some (rowD p), some (.int n), none, none, none, none] [] (rowD (rng n)) [] := ev_callC (n := 1) ⟨n, by omega, rfl, rfl, (oc_y hn).symm⟩ (ea_cons (ev_var rfl) ea_nil) rfl
  refine sq_drop e0 ?_
  refine sq_if (et_B (DY.ev_anyY (b := fun d => match d with | .int i => !(decide (1 ≤ i) && decide (i ≤ (n : Int))) | _ => false) hP (ev_var rfl) iwd_tup fun d hd => ?_)) (fun hb => ?_) (fun hb => ?_)
  · obtain ⟨i, hi, rfl⟩ := List.mem_map.mp hd
    exact DY.ey_not (DY.ey_chain DY.ey_int (DY.ey_item 0 rfl) (DY.ey_var rfl))
  · have hg : ¬ okP n p := fun g => by
      rw [List.any_eq_true] at hb
      obtain ⟨d, h1, h2⟩ := hb
      obtain ⟨i, hi, rfl⟩ := List.mem_map.mp h1
      have := g.2.1 i hi
      simp at h2
      omega
    refine sq_raise ?_
    rw [oc_n hg]
    exact ⟨rfl, rfl⟩
  · have hin : ∀ x ∈ p, 1 ≤ x ∧ x ≤ (n : Int) := fun x hx => by
      rw [List.any_eq_false] at hb
      have := hb (.int x) (List.mem_map.mpr ⟨x, hx, rfl⟩)
      simp at this
      omega
    refine sq_next ?_
    have e2 : Ev T K (tOp (rCatA K) (tOp (rCatA K) (tTup (tCons (tC (.int 0)) tNil)) (tThen (tVar 0) (kTup K))) (tTup (tCons (tOp (rI0 fun i j => .int (i + j)) (tVar 1) (tC (.int 1))) tNil))) [some (rowD p), some (.int n), none, none, none, none] [] (rowD (endsOf n p)) [] := by
      have q := ev_op (T := T) (K := K) (g := [some (rowD p), some (.int n), none, none, none, none]) (r := []) (ev_op (ev_tup (ea_cons (ev_int (i := 0)) ea_nil) (by decide)) (DY.ev_tupOfT (ev_var (i := 0) (d := .tup (p.map D.int)) rfl)) (od_catT (by simp; omega))) (ev_tup (ea_cons (ev_op (ev_var (i := 1) rfl) (ev_int (i := 1)) (od_I0i (h := fun i j => i + j))) ea_nil) (by simp)) (od_catT (by simp; omega))
      refine q.of_eq ?_
      simp [endsOf]
    refine sq_set e2 ?_
    have hz : ∀ q ∈ ((endsOf n p).map D.int).zip (((endsOf n p).map D.int).drop 1), ∃ a b, q = (D.int a, D.int b) ∧ (a, b) ∈ (endsOf n p).zip ((endsOf n p).drop 1) := fun q hq => by
      rw [← List.map_drop, List.zip_map, List.mem_map] at hq
      obtain ⟨⟨a, b⟩, h1, rfl⟩ := hq
      exact ⟨a, b, rfl, h1⟩
    refine st_if (et_B (DY.ev_anyZ (b := fun d e => match d, e with | .int i, .int j => (decide (j ≤ i) || ((j - i) % 2 == 0)) | _, _ => false) hP (ea_cons (ev_var rfl) (ea_cons (ev_slT (ev_var rfl) (eo_some ev_int) eo_none) ea_nil)) fun q hq => ?_)) (fun hb => ?_) (fun hb => ?_)
    · rw [cut_from (by decide)] at hq
      obtain ⟨a, b, rfl, h1⟩ := hz q hq
      exact DY.ey_or (DY.ey_cmp (h := fun i j => decide (j ≤ i)) (DY.ey_item 0 rfl) (DY.ey_item 1 rfl)) fun _ => DY.ey_cmp (h := fun i j => i == j) (DY.ey_bin (h := fun i j => i % j) (DY.ey_bin (h := fun i j => i - j) (DY.ey_item 1 rfl) (DY.ey_item 0 rfl) True.intro) DY.ey_int (by decide)) DY.ey_int
    · have hg : ¬ okP n p := fun g => by
        rw [List.any_eq_true] at hb
        obtain ⟨q, h1, h2⟩ := hb
        rw [cut_from (by decide)] at h1
        obtain ⟨a, b, rfl, h3⟩ := hz q h1
        have := g.2.2 (a, b) h3
        simp at h2
        simp at this
        omega
      refine st_raise ?_
      rw [oc_n hg]
      exact ⟨rfl, rfl⟩
    · have hg : okP n p := ⟨hn, hin, fun q hq => by
        rw [List.any_eq_false] at hb
        have := hb (.int q.1, .int q.2) (by
          rw [cut_from (by decide)]
          show _ ∈ (List.map D.int (endsOf n p)).zip ((List.map D.int (endsOf n p)).drop 1)
          rw [← List.map_drop, List.zip_map, List.mem_map]
          exact ⟨q, hq, rfl⟩)
        simp at this
        omega⟩
      refine st_next ?_
      rw [oc_y hg]
      exact ⟨rfl, rfl⟩
def R_changed (cRow cPl : Addr) : Rel := fun ds r o => ∃ (l p : List Int), l.length ≤ 1000 ∧ p.length ≤ 1000 ∧ ds = [rowD l, rowD p] ∧ r = [] ∧ o = if good l then oc (okP l.length p) (.tux ((chg p l).map D.int)) cPl else .err cRow []
theorem sc_changed : FnScope ["row", "places", "found", "place"] ["row", "places"] (defScope s_changed) := ⟨rfl, rfl, rfl, by decide +kernel, rfl, by decide +kernel, by decide +kernel⟩
theorem ok_changed (F : Fun K "changed" "changed" s_changed f fd) (B : Bi mg) (c_check_row : Cal P w K mg base T "check_row" 2 ["row"] (R_check_row cRow)) (c_check_places : Cal P w K mg base T "check_places" 3 ["places", "bells"] (R_check_places cRow cPl)) : FnOk P w K mg base (L2.CX P w) 4 f fd ["row", "places"] (spR T K 2 (R_changed cRow cPl)) := by
  obtain ⟨f_r, fd_r, o_check_row, m_check_row, k_check_row, b_check_row⟩ := c_check_row.ex
  obtain ⟨f_p, fd_p, o_check_places, m_check_places, k_check_places, b_check_places⟩ := c_check_places.ex
  refine F.okX sc_changed spR_len (fun cdv A outer s H vs Q E hr h => ⟨_, (pss_cons (ps_expr (pe_call o_check_row (hr.mono (by decide)) (by rfl) m_check_row k_check_row b_check_row .nil (passes_call (takes_of (E := E) rfl rfl rfl rfl) (fun _ _ _ _ h => h)) (pa_cons (pv 0) pa_nil)))
      (pss_cons (ps_expr (pe_call o_check_places (hr.mono (by decide)) (by rfl) m_check_places k_check_places b_check_places .nil (passes_call (takes_of (E := E) rfl rfl rfl rfl) (fun _ _ _ _ h => h)) (pa_cons (pv 1) (pa_cons (pe_callB (r := rLenX K) call_len (by rfl) B.len PySem.boot_len (pa_cons (pv 0) pa_nil)) pa_nil))))
      (pss_cons (ps_par (i := 2) (j := 3) (by rfl) sc_changed.nd rfl rfl (by decide) rfl rfl (pa_cons (pe_callTy (r := rListOfX K) call_list_of (by rfl) B.list (by decide +kernel) (pa_cons (pv 0) pa_nil)) (pa_cons pe_int pa_nil)) (by rfl))
      (pss_cons (ps_while (passes_of rfl) (pt_cmpR op_le (pv 3) (pe_callB (r := rLenX K) call_len (by rfl) B.len PySem.boot_len (pa_cons (pv 0) pa_nil)) (nomark _)) (pss_one (ps_if (pt_cmpR (r := rIn K false) op_in_seq (pv 3) (pv 1) (by rfl)) (pss_one (ps_aug (i := 3) sc_changed.nd rfl (by first | exact Or.inl rfl | exact Or.inr rfl) pe_int ip_add)) (pss_cons (ps_asg (pe_tup (pa_cons (pe_ix (r := rIxT K) ix_tup (pv 0) (pv 3) (fun _ _ => rfl)) (pa_cons (pe_ix (r := rIxT K) ix_tup (pv 0) (pe_op op_sub (pv 3) pe_int) (fun _ _ => rfl)) pa_nil))) (pg_tup (by rfl) (pgs_cons (pg_sub (pv 2) (pe_op op_sub (pv 3) pe_int) set_list) (pgs_cons (pg_sub (pv 2) (pv 3) set_list) pgs_nil))))
      (pss_one (ps_aug (i := 3) sc_changed.nd rfl (by first | exact Or.inl rfl | exact Or.inr rfl) pe_int ip_add))))))
      (pss_one (ps_ret (pe_tupX (by rfl) B.tuple (pv 2)))))))), ?_⟩)
  refine keeps h (by decide) ?_
  rintro ds r o hl ⟨l, p, hn, hp, rfl, rfl, rfl⟩
  by_cases hg : good l
  · rw [if_pos hg]
    have hc : EvA T K (tCons (tVar 1) (tCons (tCB (rLenX K) (tCons (tVar 0) tNil)) tNil)) [some (rowD l), some (rowD p), none, none] [] [rowD p, .int (l.length : Nat)] [] := by
      refine ea_cons (ev_var rfl) (ea_cons (Ev.of_eq (ev_cb (ea_cons (ev_var rfl) ea_nil) (ca_len vs_t)) ?_) ea_nil)
      rw [List.length_map]
    refine sq_drop (chk (f0 := f_r) hn hg (ev_var rfl)) ?_
    by_cases hq : okP l.length p
    · rw [oc_y hq]
      refine sq_drop (ev_callC (n := 2) (R := R_check_places cRow cPl) ⟨l.length, p, hn, hp, rfl, rfl, by rw [if_pos ⟨hg.1, hg.2.1⟩, oc_y hq]⟩ hc rfl) ?_
      refine sq_parNE (en_listOf (ea_cons (ev_var rfl) ea_nil) vs_t) (fun q => ev_int) fun q => ?_
      refine st_seq (M := fun g r => ∃ x, g = [some (rowD l), some (rowD p), some (.ref q), some x] ∧ r = [rl q ((chg p l).map D.int)]) (st_while (fun m g r => ∃ (k : Nat) (done : List Int), k ≤ l.length ∧ m = l.length - k ∧ al l.length p k ∧ done.length = k ∧ done ++ chgL p k (l.drop k) = chg p l ∧ g = [some (rowD l), some (rowD p), some (.ref q), some (.int ((k : Int) + 1))] ∧ r = [rl q ((done ++ l.drop k).map D.int)]) l.length ?_ ?_) ?_
      · exact ⟨0, [], by omega, by omega, al_0 hq, rfl, by simp [chg], rfl, rfl⟩
      rintro m g r ⟨k, done, hk, rfl, hal, hd, hch, rfl, rfl⟩
      refine ⟨_, _, et_test (ev_op (ev_var rfl) (ev_cb (ea_cons (ev_var rfl) ea_nil) (ca_len vs_t)) od_I0b), fun hb => ?_, fun hb => ?_⟩
      · have hk2 : k < l.length := by simp at hb; omega
        obtain ⟨a1, a2⟩ := al_step hal hk2
        refine st_if (et_test (ev_op (ev_var rfl) (ev_var rfl) (od_inI vs_t))) (fun hm => ?_) (fun hm => ?_)
        · have hm2 : ((k : Int) + 1) ∈ p := by simpa using hm
          refine st_aug rfl ev_int ?_
          refine ⟨l.length - (k + 1), by omega, k + 1, done ++ [l.getD k 0], by omega, rfl, a1 hm2, by simp [hd], ?_, by simp, ?_⟩
          · rw [List.append_assoc, ← hch, chgL_in hk2 hm2]
            rfl
          · rw [List.append_assoc, drop_at hk2]
            rfl
        · have hm2 : ((k : Int) + 1) ∉ p := by simpa using hm
          obtain ⟨b1, b2⟩ := a2 hm2
          have gk : ∀ j : Nat, j < l.length → atI (l.map D.int) (j : Int) = some (.int (l.getD j 0)) := fun j hj => atI_of (by omega) (by
            rw [List.getElem?_map, List.getD_eq_getElem?_getD]
            simp [hj])
          have hlen : (done ++ l.drop k).length = l.length := by simp [hd]; omega
          have hset : (((done ++ l.drop k).map D.int).set k (.int (l.getD (k + 1) 0))).set (k + 1) (.int (l.getD k 0)) = (done ++ [l.getD (k + 1) 0, l.getD k 0] ++ l.drop (k + 2)).map D.int := by
            rw [← List.map_set, ← List.map_set]
            congr 1
            rw [drop_at hk2, drop_at b1, ← hd]
            simp
          refine sq_asgR (d := .tup [.int (l.getD (k + 1) 0), .int (l.getD k 0)]) (r1 := [rl q ((done ++ l.drop k).map D.int)]) (g2 := [some (rowD l), some (rowD p), some (.ref q), some (.int ((k : Int) + 1))]) (r2 := [rl q ((done ++ [l.getD (k + 1) 0, l.getD k 0] ++ l.drop (k + 2)).map D.int)]) ?_ ?_ ?_
          · exact ev_tup (ea_cons (ev_op (ev_var rfl) (ev_var rfl) (od_ixT (gk (k + 1) b1))) (ea_cons (ev_op (ev_var rfl) (ev_op (ev_var rfl) ev_int (od_I0i (h := fun i j => i - j))) (od_ixT (by rw [Int.add_sub_cancel]; exact gk k hk2))) ea_nil)) (by simp)
          · rw [← hset]
            exact er_tup (ers_cons (er_setL 0 (m := k) (ev_var rfl) (ev_op (ev_var rfl) ev_int (od_I0i (h := fun i j => i - j))) rfl (by rw [Int.add_sub_cancel, List.length_map, hlen]; exact ixN_nat hk2)) (ers_cons (er_setL 0 (m := k + 1) (ev_var rfl) (ev_var rfl) rfl (by rw [List.length_set, List.length_map, hlen]; exact ixN_nat b1)) ers_nil)) rfl
          · refine st_aug rfl ev_int ?_
            refine ⟨l.length - (k + 2), by omega, k + 2, done ++ [l.getD (k + 1) 0, l.getD k 0], by omega, rfl, b2, by simp [hd], ?_, by simp; omega, rfl⟩
            rw [List.append_assoc, ← hch, chgL_out b1 hm2]
            rfl
      · have hk2 : k = l.length := by simp at hb; omega
        refine ⟨_, rfl, ?_⟩
        subst hk2
        rw [List.drop_length] at hch ⊢
        rw [← hch]
        simp [chgL]
      · rintro g r ⟨x, rfl, rfl⟩
        refine st_retA (ev_tupX (ev_var rfl) (vl_o 0 rfl)) ?_
        exact ⟨rfl, rfl⟩
    · rw [oc_n hq]
      refine sq_exE (ex_callC (n := 2) (R := R_check_places cRow cPl) ⟨l.length, p, hn, hp, rfl, rfl, by rw [if_pos ⟨hg.1, hg.2.1⟩, oc_n hq]⟩ hc rfl) ⟨rfl, rfl⟩
  · rw [if_neg hg]
    exact sq_exE (chkX (f0 := f_r) hn hg (ev_var rfl)) ⟨rfl, rfl⟩

end
end Bs
namespace Bs
open PySem DL
/-! plain: what a notation tells -/
/-- the places of a row of signs -/
def plc (n : Nat) (cs : List Nat) : List Int :=
  let p0 := cs.map bellOf
  let p1 := if p0.getD 0 0 % 2 = 0 then 1 :: p0 else p0
  if ((n : Int) - p1.getD (p1.length - 1) 0) % 2 = 1 then p1 ++ [(n : Int)] else p1
def okS (cs : List Nat) : Prop := cs ≠ [] ∧ ∀ c ∈ cs, c ∈ SIGNS.cps.toList
instance (cs : List Nat) : Decidable (okS cs) := by unfold okS; exact inferInstance
def chOne (n : Nat) (z : Str) : Option (List (List Int)) :=
  if z = ("x" : Str) then (if okP n [] then some [[]] else none)
  else if z = ("" : Str) then some []
  else if okS z.cps.toList ∧ okP n (plc n z.cps.toList) then some [plc n z.cps.toList] else none
def chAll (n : Nat) : List Str → Option (List (List Int))
  | [] => some []
  | z :: r => match chOne n z with
    | none => none
    | some a => match chAll n r with
      | none => none
      | some b => some (a ++ b)
def partsOf (z : Str) : List Str := Txt.split (Txt.replace z "x" ".x.") "."
def plainV (n : Nat) (z : Str) : Option (List (List Int)) := match chAll n (partsOf z) with
  | some (a :: l) => some (a :: l)
  | _ => none
def chComma (n : Nat) : List Str → Option (List (List Int))
  | [] => some []
  | z :: r => match plainV n z with
    | none => none
    | some a => match chComma n r with
      | none => none
      | some b => some (a ++ a.dropLast.reverse ++ b)
def chgsV (n : Nat) (z : Str) : Option (List (List Int)) := if 44 ∈ z.cps.toList then chComma n (Txt.split z ",") else plainV n z
theorem chAll_app (n : Nat) : ∀ (a : List Str) (z : Str), chAll n (a ++ [z]) = match chAll n a with
    | none => none
    | some l => match chOne n z with
      | none => none
      | some b => some (l ++ b)
  | [], z => by
    show chAll n [z] = _
    simp only [chAll]
    cases chOne n z <;> simp
  | y :: a, z => by
    show chAll n (y :: (a ++ [z])) = _
    simp only [chAll]
    rw [chAll_app n a z]
    cases chOne n y with
    | none => rfl
    | some l1 =>
      cases chAll n a with
      | none => rfl
      | some l2 =>
        cases chOne n z with
        | none => rfl
        | some l3 => simp
theorem chAll_none (n : Nat) : ∀ (a b : List Str), chAll n a = none → chAll n (a ++ b) = none
  | [], b, h => by simp [chAll] at h
  | z :: a, b, h => by
    show chAll n (z :: (a ++ b)) = none
    simp only [chAll] at h ⊢
    cases hz : chOne n z with
    | none => rfl
    | some l =>
      rw [hz] at h
      cases ha : chAll n a with
      | none => rw [chAll_none n a b ha]
      | some l2 => rw [ha] at h; cases h
theorem chComma_app (n : Nat) : ∀ (a : List Str) (z : Str), chComma n (a ++ [z]) = match chComma n a with
    | none => none
    | some l => match plainV n z with
      | none => none
      | some b => some (l ++ (b ++ b.dropLast.reverse))
  | [], z => by
    show chComma n [z] = _
    simp only [chComma]
    cases plainV n z <;> simp
  | y :: a, z => by
    show chComma n (y :: (a ++ [z])) = _
    simp only [chComma]
    rw [chComma_app n a z]
    cases plainV n y with
    | none => rfl
    | some l1 =>
      cases chComma n a with
      | none => rfl
      | some l2 =>
        cases plainV n z with
        | none => rfl
        | some l3 => simp
theorem chComma_none (n : Nat) : ∀ (a b : List Str), chComma n a = none → chComma n (a ++ b) = none
  | [], b, h => by simp [chComma] at h
  | z :: a, b, h => by
    show chComma n (z :: (a ++ b)) = none
    simp only [chComma] at h ⊢
    cases hz : plainV n z with
    | none => rfl
    | some l =>
      rw [hz] at h
      cases ha : chComma n a with
      | none => rw [chComma_none n a b ha]
      | some l2 => rw [ha] at h; cases h
theorem take_snoc {α : Type} {l : List α} {i : Nat} {a : α} (h : l[i]? = some a) : l.take (i + 1) = l.take i ++ [a] := by
  rw [List.take_succ, h]
  rfl
theorem chAll_pre {n : Nat} {l : List Str} {i : Nat} {z : Str} (h : l[i]? = some z) (hn : chAll n (l.take (i + 1)) = none) : chAll n l = none := by
  have := chAll_none n _ (l.drop (i + 1)) hn
  rwa [List.take_append_drop] at this
theorem chComma_pre {n : Nat} {l : List Str} {i : Nat} {z : Str} (h : l[i]? = some z) (hn : chComma n (l.take (i + 1)) = none) : chComma n l = none := by
  have := chComma_none n _ (l.drop (i + 1)) hn
  rwa [List.take_append_drop] at this
theorem chOne_len {n : Nat} {z : Str} {a : List (List Int)} (h : chOne n z = some a) : a.length ≤ 1 := by
  unfold chOne at h
  split at h
  · split at h
    · cases h; simp
    · cases h
  · split at h
    · cases h; simp
    · split at h
      · cases h; simp
      · cases h
theorem chAll_len {n : Nat} : ∀ {l : List Str} {a : List (List Int)}, chAll n l = some a → a.length ≤ l.length
  | [], a, h => by simp [chAll] at h; subst h; simp
  | z :: l, a, h => by
    simp only [chAll] at h
    cases hz : chOne n z with
    | none => rw [hz] at h; cases h
    | some b =>
      rw [hz] at h
      cases hl : chAll n l with
      | none => rw [hl] at h; cases h
      | some c =>
        rw [hl] at h
        cases h
        have h1 := chOne_len hz
        have h2 := chAll_len hl
        rw [List.length_append, List.length_cons]
        omega
theorem parts_len (z : Str) : (partsOf z).length ≤ z.length + (z.length + 1) * 3 + 2 := by
  have h1 := PyProof.Rows.split_le (Txt.replace z "x" ".x.") "."
  have h2 := TK.replace_len z "x" ".x."
  have e : (".x." : Str).length = 3 := by decide
  rw [e] at h2
  unfold partsOf
  omega
theorem plainV_ne {n : Nat} {z : Str} {l : List (List Int)} (h : plainV n z = some l) : l ≠ [] ∧ chAll n (partsOf z) = some l := by
  unfold plainV at h
  split at h
  · rename_i a l' e
    cases h
    exact ⟨by simp, e⟩
  · cases h
theorem plainV_len {n : Nat} {z : Str} {l : List (List Int)} (h : plainV n z = some l) : l.length ≤ z.length + (z.length + 1) * 3 + 2 := by
  have := chAll_len (plainV_ne h).2
  have := parts_len z
  omega
end Bs
namespace Bs
open PySem PySem.Spec PyProof.Rows L2 DL GX GxR


section
variable {P : Program} {w : World} {K : PySem.W.Frag} {mg : Str → Option Value} {base : Heap} {T : Tb} {cRow cPl : Addr} {f c Pt : Addr} {fd : FuncData} {uS uM : Value}




structure CalT (P : Program) (w : World) (K : PySem.W.Frag) (mg : Str → Option Value) (base : Heap) (T : Tb) (x : Str) (k : Nat) (ps : List Str) (R : List D → Rs → Oc → Prop) : Prop where
  ex : ∃ (f : Addr) (fd : FuncData), TkO.FnT P w K mg base (L2.CX P w) k f fd ps (spR T K ps.length R) ∧ mg x = some (.ref f) ∧ PySem.W.keepIn K (.ref f) = true ∧ Binds K fd ps []
def R_places_of (cRow cPl : Addr) : Rel := fun ds r o => ∃ (z : Str) (n : Nat), z.length ≤ 500 ∧ (3 ≤ n ∧ n ≤ 12) ∧ ds = [.str z, .int n] ∧ r = [] ∧ o = oc (okS z.cps.toList ∧ okP n (plc n z.cps.toList)) (rowD (plc n z.cps.toList)) cPl
theorem sc_places_of : FnScope ["text", "bells", "sign", "places"] ["text", "bells"] (defScope s_places_of) := ⟨rfl, rfl, rfl, by decide +kernel, rfl, by decide +kernel, by decide +kernel⟩
theorem ok_places_of (F : Fun K "places_of" "places_of" s_places_of f fd) (hc : fd.code = .ref c) (B : Bi mg) (TBplaces_of : GxR.TabB base mg c Pt) (hP : Pt ∈ T.gs) (e_PlaceError : Er K mg "PlaceError" cPl) (g_SIGNS_OF_BELLS : mg "SIGNS_OF_BELLS" = some uS ∧ RelV (.str SIGNS) uS) (c_check_places : Cal P w K mg base T "check_places" 3 ["places", "bells"] (R_check_places cRow cPl)) : FnOk P w K mg base (L2.CX P w) 4 f fd ["text", "bells"] (spR T K 2 (R_places_of cRow cPl)) := by
  obtain ⟨f_r, fd_r, o_check_places, m_check_places, k_check_places, b_check_places⟩ := c_check_places.ex
  refine okC F hc sc_places_of spR_len (fun A outer s H vs Q E hr h => ⟨_, (pss_cons (ps_if (PW.pt (pw_or (pt_cmpR op_eq (pv 0) pe_str (nomark _)) (pw_or1 (pt_val (pe_anyGen hr (by rfl) B.any TBplaces_of rfl (gs_by (by kernel_rfl)) (pv 0) iw_str (gp_notInS gp_item (gp_glob (by rfl) g_SIGNS_OF_BELLS.1 g_SIGNS_OF_BELLS.2) rfl) (fun _ => rfl)))))) (pss_one (ps_raise rfl (takes_of (E := E) rfl rfl rfl rfl) (pmk_own PySem.F.excBase_ValueError e_PlaceError.x e_PlaceError.g e_PlaceError.k (raises_own e_PlaceError.b e_PlaceError.t) (by rfl)))) pss_nil)
      (pss_cons (ps_set (i := 3) sc_places_of.nd rfl (by first | exact Or.inl rfl | exact Or.inr rfl) (pe_tupGen hr (by rfl) B.tuple TBplaces_of rfl (gs_by (by kernel_rfl)) (pv 0) iw_str (gp_add (gp_idxS (gp_glob (by rfl) g_SIGNS_OF_BELLS.1 g_SIGNS_OF_BELLS.2) gp_item (fun _ => rfl) (fun _ => rfl) rfl (fun _ => rfl) (fun _ => rfl) (fun _ => rfl)) gp_int) (fun _ => rfl)))
      (pss_cons (ps_if (pt_cmpR op_eq (pe_op op_mod (pe_ix (r := rIxT K) ix_tup (pv 3) pe_int (fun _ _ => rfl)) pe_int) pe_int (nomark _)) (pss_one (ps_set (i := 3) sc_places_of.nd rfl (by first | exact Or.inl rfl | exact Or.inr rfl) (pe_op op_catA (pe_tup (pa_cons pe_int pa_nil)) (pv 3)))) pss_nil)
      (pss_cons (ps_if (pt_cmpR op_eq (pe_op op_mod (pe_op op_sub (pv 1) (pe_ix (r := rIxT K) ix_tup (pv 3) (pe_un un_neg pe_int) (fun _ _ => rfl))) pe_int) pe_int (nomark _)) (pss_one (ps_aug (i := 3) sc_places_of.nd rfl (by first | exact Or.inl rfl | exact Or.inr rfl) (pe_tup (pa_cons (pv 1) pa_nil)) iop_catA)) pss_nil)
      (pss_cons (ps_expr (pe_call o_check_places (hr.mono (by decide)) (by rfl) m_check_places k_check_places b_check_places .nil (passes_call (takes_of (E := E) rfl rfl rfl rfl) (fun _ _ _ _ h => h)) (pa_cons (pv 3) (pa_cons (pv 1) pa_nil))))
      (pss_one (ps_ret (pv 3)))))))), ?_⟩)
  refine keeps h (by decide) ?_
  rintro ds r o hl ⟨z, n, hn, hn12, rfl, rfl, rfl⟩
  have hz : z.cps.toList.length ≤ 500 := by simpa [Str.length] using hn
  have e1 : ∀ g : G, g[0]? = some (some (.str z)) → Ev T K (tGAny Pt iwS (elNotInS elItem (elC (.str SIGNS))) (tVar 0)) g [] (.bl ((z.cps.toList.map sgn).any fun d => match d with | .str s => !decide (s.cps.toList.getD 0 0 ∈ SIGNS.cps.toList) | _ => false)) [] := fun g hg => by
    refine ev_anyGen hP (ev_var hg) iwd_str fun d hd => ?_
    obtain ⟨c, hc, rfl⟩ := List.mem_map.mp hd
    exact el_notInS el_item el_str
  refine sq_if (b := decide (z = ("" : Str)) || ((z.cps.toList.map sgn).any fun d => match d with | .str s => !decide (s.cps.toList.getD 0 0 ∈ SIGNS.cps.toList) | _ => false)) (et_or (et_test (ev_op (ev_var rfl) ev_str od_eqS)) fun _ => et_B (e1 _ rfl)) (fun hb => ?_) (fun hb => ?_)
  · have hg : ¬ (okS z.cps.toList ∧ okP n (plc n z.cps.toList)) := fun gg => by
      obtain ⟨⟨g1, g2⟩, _⟩ := gg
      rw [Bool.or_eq_true] at hb
      rcases hb with hb | hb
      · have e : z = ("" : Str) := by simpa using hb
        exact g1 (by rw [e]; rfl)
      · rw [List.any_eq_true] at hb
        obtain ⟨d, h1, h2⟩ := hb
        obtain ⟨c, h3, rfl⟩ := List.mem_map.mp h1
        have := g2 c h3
        simp at h2
        exact h2 (by simpa using this)
    refine sq_raise ?_
    rw [oc_n hg]
    exact ⟨rfl, rfl⟩
  · have hS : okS z.cps.toList := by
      rw [Bool.or_eq_false_iff] at hb
      refine ⟨fun e => ?_, fun c h3 => ?_⟩
      · have : z = ("" : Str) := DL.str_ext (by rw [e]; rfl)
        simp [this] at hb
      · have := hb.2
        rw [List.any_eq_false] at this
        simpa using this (sgn c) (List.mem_map.mpr ⟨c, h3, rfl⟩)
    have hp0 : 0 < z.cps.toList.length := List.length_pos_iff.mpr hS.1
    refine sq_next ?_
    have e2 : ∀ g : G, g[0]? = some (some (.str z)) → Ev T K (tGTup Pt iwS (elAdd (elIdxS (elC (.str SIGNS)) elItem) (elC (.int 1))) (tVar 0)) g [] (rowD (z.cps.toList.map bellOf)) [] := fun g hg => by
      have q := ev_tux (ev_tupGen (T := T) (K := K) (g := g) (r := []) (iw := iwS) (el := elAdd (elIdxS (elC (.str SIGNS)) elItem) (elC (.int 1))) (ds := z.cps.toList.map sgn) (fd := fun d => match d with | .str s => .int (((SIGNS.cps.toList.idxOf (s.cps.toList.getD 0 0) : Nat) : Int) + 1) | _ => .non) hP (ev_var hg) iwd_str (fun d hd => ?_) (by rw [List.length_map]; omega))
      · have e : (z.cps.toList.map sgn).map (fun d => match d with | .str s => D.int (((SIGNS.cps.toList.idxOf (s.cps.toList.getD 0 0) : Nat) : Int) + 1) | _ => .non) = (z.cps.toList.map bellOf).map D.int := by
          rw [List.map_map, List.map_map]
          refine List.map_congr_left fun c _ => ?_
          simp [bellOf]
        rw [e] at q
        exact q
      · obtain ⟨c, hc, rfl⟩ := List.mem_map.mp hd
        have hm := hS.2 c hc
        have := occ_signs c hm
        simp only [List.getD_cons_zero, List.toList_toArray] at *
        exact el_add (el_idxS el_str el_item this) el_int
    refine sq_set (e2 _ rfl) ?_
    -- the first place
    have p0 : (z.cps.toList.map bellOf) ≠ [] := by simpa using hS.1
    generalize hq0 : z.cps.toList.map bellOf = q0 at p0 ⊢
    have l0 : q0.length ≤ 500 := by rw [← hq0, List.length_map]; exact hz
    have lp0 := List.length_pos_iff.mpr p0
    have hpl : plc n z.cps.toList = (let p1 := if q0.getD 0 0 % 2 = 0 then 1 :: q0 else q0; if ((n : Int) - p1.getD (p1.length - 1) 0) % 2 = 1 then p1 ++ [(n : Int)] else p1) := by
      unfold plc
      rw [hq0]
    rw [hpl]
    have fin : ∀ (g : G) (p2 : List Int), p2.length ≤ 1000 → g[1]? = some (some (.int n)) → g[3]? = some (some (rowD p2)) → StD T K E (tSeq (tDrop (tCall (spR T K 2 (R_check_places cRow cPl)) [] E (tCons (tVar 3) (tCons (tVar 1) tNil)))) (tRet (tVar 3))) g [] { nx := fun _ r' => (oc (okS z.cps.toList ∧ okP n p2) (rowD p2) cPl).ok .non r', rt := fun d r' => (oc (okS z.cps.toList ∧ okP n p2) (rowD p2) cPl).ok d r', ex := fun C r' => (oc (okS z.cps.toList ∧ okP n p2) (rowD p2) cPl).er C r' } := fun g p2 hp2 h1 h3 => by
      by_cases hq : okP n p2
      · rw [oc_y ⟨hS, hq⟩]
        exact sq_drop (ev_callC (n := 2) (R := R_check_places cRow cPl) ⟨n, p2, by omega, hp2, rfl, rfl, by rw [if_pos hn12, oc_y hq]⟩ (ea_cons (ev_var h3) (ea_cons (ev_var h1) ea_nil)) rfl) (st_ret (ev_var h3) ⟨rfl, rfl⟩)
      · rw [oc_n (fun z => hq z.2)]
        exact sq_exE (ex_callC (n := 2) (R := R_check_places cRow cPl) ⟨n, p2, by omega, hp2, rfl, rfl, by rw [if_pos hn12, oc_n hq]⟩ (ea_cons (ev_var h3) (ea_cons (ev_var h1) ea_nil)) rfl) ⟨rfl, rfl⟩
    -- behind the first place
    have mid : ∀ (g : G) (p1 : List Int), p1 ≠ [] → p1.length ≤ 600 → g.length = 4 → g[1]? = some (some (.int n)) → g[3]? = some (some (rowD p1)) → StD T K E (tSeq (tIfS (tTest (tOp rEq (tOp (rI (fun _ j => 0 < j) fun i j => .int (i % j)) (tOp (rI0 fun i j => .int (i - j)) (tVar 1) (tOp (rIxT K) (tVar 3) (tUn (rU fun i => .int (-i)) (tC (.int 1))))) (tC (.int 2))) (tC (.int 1)))) (tAug 3 (tTup (tCons (tVar 1) tNil)) (rCatA K)) tNext) (tSeq (tDrop (tCall (spR T K 2 (R_check_places cRow cPl)) [] E (tCons (tVar 3) (tCons (tVar 1) tNil)))) (tRet (tVar 3)))) g []
        { nx := fun _ r' => (oc (okS z.cps.toList ∧ okP n (if ((n : Int) - p1.getD (p1.length - 1) 0) % 2 = 1 then p1 ++ [(n : Int)] else p1)) (rowD (if ((n : Int) - p1.getD (p1.length - 1) 0) % 2 = 1 then p1 ++ [(n : Int)] else p1)) cPl).ok .non r', rt := fun d r' => (oc (okS z.cps.toList ∧ okP n (if ((n : Int) - p1.getD (p1.length - 1) 0) % 2 = 1 then p1 ++ [(n : Int)] else p1)) (rowD (if ((n : Int) - p1.getD (p1.length - 1) 0) % 2 = 1 then p1 ++ [(n : Int)] else p1)) cPl).ok d r', ex := fun C r' => (oc (okS z.cps.toList ∧ okP n (if ((n : Int) - p1.getD (p1.length - 1) 0) % 2 = 1 then p1 ++ [(n : Int)] else p1)) (rowD (if ((n : Int) - p1.getD (p1.length - 1) 0) % 2 = 1 then p1 ++ [(n : Int)] else p1)) cPl).er C r' } := fun g p1 hp1 hl1 hg h1 h3 => by
      refine sq_if (et_test (ev_op (ev_op (ev_op (ev_var h1) (ev_op (ev_var h3) (ev_neg ev_int) (od_lastRow hp1)) od_I0i) ev_int (od_I (by omega))) ev_int od_eqI)) (fun hb => ?_) (fun hb => ?_)
      · have hb : ((n : Int) - p1.getD (p1.length - 1) 0) % 2 = 1 := by simpa using hb
        rw [if_pos hb]
        refine sq_augD h3 (ev_tup (ea_cons (ev_var h1) ea_nil) (by simp)) (od_catT (by simp; omega)) ?_
        refine fin _ _ (by simp; omega) ?_ ?_
        · rw [List.getElem?_set_ne (by decide)]; exact h1
        · rw [List.getElem?_set_self (by omega)]; simp
      · have hb : ¬ ((n : Int) - p1.getD (p1.length - 1) 0) % 2 = 1 := by simpa using hb
        rw [if_neg hb]
        exact sq_next (fin _ _ (by omega) h1 h3)
    refine sq_if (et_test (ev_op (ev_op (ev_op (ev_var rfl) ev_int (od_ixRow (by omega) (by omega))) ev_int (od_I (by omega))) ev_int od_eqI)) (fun hb => ?_) (fun hb => ?_)
    · have hb : q0.getD 0 0 % 2 = 0 := by simpa using hb
      rw [if_pos hb]
      refine sq_set (d := rowD (1 :: q0)) (Ev.of_eq (ev_op (ev_tup (ea_cons (ev_int (i := 1)) ea_nil) (by decide)) (ev_var (i := 3) rfl) (od_catT (by simp; omega))) rfl) ?_
      exact mid _ (1 :: q0) (by simp) (by simp; omega) rfl rfl rfl
    · have hb : ¬ q0.getD 0 0 % 2 = 0 := by simpa using hb
      rw [if_neg hb]
      exact sq_next (mid _ q0 p0 (by omega) rfl rfl rfl)
def R_plain (cRow cPl : Addr) : Rel := fun ds r o => ∃ (z : Str) (n : Nat), z.length ≤ 5000 ∧ n ≤ 1000 ∧ ds = [.str z, .int n] ∧ r = [] ∧ (((3 ≤ n ∧ n ≤ 12) ∧ (∀ q ∈ partsOf z, q.length ≤ 500) ∧ o = match plainV n z with | some l => .one (.lst (l.map rowD)) [] | none => .err cPl []) ∨ (¬ (3 ≤ n ∧ n ≤ 12) ∧ z = ("x" : Str) ∧ o = .err cRow []))
theorem strs_app (l : List (List Int)) (a : List Int) : l.map rowD ++ [rowD a] = (l ++ [a]).map rowD := by rw [List.map_append]; rfl
theorem parts_x : partsOf "x" = [("" : Str), ("x" : Str), ("" : Str)] := by decide +kernel
theorem ifz {α : Type} {b : Bool} {x y : α} (h : b = true) : (if b = true then x else y) = x := if_pos h
theorem sc_plain_changes : FnScope ["text", "bells", "found", "part"] ["text", "bells"] (defScope s_plain_changes) := ⟨rfl, rfl, rfl, by decide +kernel, rfl, by decide +kernel, by decide +kernel⟩
theorem ok_plain_changes (F : Fun K "plain_changes" "plain_changes" s_plain_changes f fd) (B : Bi mg) (e_PlaceError : Er K mg "PlaceError" cPl) (c_check_places : Cal P w K mg base T "check_places" 3 ["places", "bells"] (R_check_places cRow cPl)) (c_places_of : Cal P w K mg base T "places_of" 4 ["text", "bells"] (R_places_of cRow cPl)) : TkO.FnT P w K mg base (L2.CX P w) 5 f fd ["text", "bells"] (spR T K 2 (R_plain cRow cPl)) := by
  obtain ⟨f_r, fd_r, o_check_places, m_check_places, k_check_places, b_check_places⟩ := c_check_places.ex
  obtain ⟨f_p, fd_p, o_places_of, m_places_of, k_places_of, b_places_of⟩ := c_places_of.ex
  refine TkO.okT F sc_plain_changes spR_len (fun cdv A outer s H vs Q E hr h => ⟨_, (L2.psst_cons (L2.PST.of (ps_set (i := 2) sc_plain_changes.nd rfl (by first | exact Or.inl rfl | exact Or.inr rfl) (pe_lst pa_nil)))
      (L2.psst_cons (TkO.pst_forT (passes_of rfl) rfl (L2.pit_list (TkO.pet_m1 PySem.F.slot_str_split PySem.F.type_str_split mt_split (CwR.pet_replC (pv 0)) pe_str)) (pg_name (i := 3) sc_plain_changes.nd rfl (by first | exact Or.inl rfl | exact Or.inr rfl)) (CwR.psst_one (L2.PST.of (ps_if (pt_cmpR op_eq (pv 3) pe_str (nomark _)) (pss_cons (ps_expr (pe_call o_check_places (hr.mono (by decide)) (by rfl) m_check_places k_check_places b_check_places .nil (passes_call (takes_of (E := E) rfl rfl rfl rfl) (fun _ _ _ _ h => h)) (pa_cons (pe_tup pa_nil) (pa_cons (pv 1) pa_nil))))
      (pss_one (ps_expr (pe_bm PySem.F.plainAttrs_list PySem.F.slot_list_append PySem.F.type_list_append mt_append (pv 2) (pa_cons (pe_tup pa_nil) pa_nil))))) (pss_one (ps_if (pt_cmpR op_ne (pv 3) pe_str (nomark _)) (pss_one (ps_expr (pe_bm PySem.F.plainAttrs_list PySem.F.slot_list_append PySem.F.type_list_append mt_append (pv 2) (pa_cons (pe_call o_places_of (hr.mono (by decide)) (by rfl) m_places_of k_places_of b_places_of .nil (passes_call (takes_of (E := E) rfl rfl rfl rfl) (fun _ _ _ _ h => h)) (pa_cons (pv 3) (pa_cons (pv 1) pa_nil))) pa_nil)))) pss_nil))))))
      (L2.psst_cons (L2.PST.of (ps_if (pt_cmpR (r := rEqD K) (op_eqD hr.units) (pv 2) (pe_lst pa_nil) (nomark _)) (pss_one (ps_raise rfl (takes_of (E := E) rfl rfl rfl rfl) (pmk_own PySem.F.excBase_ValueError e_PlaceError.x e_PlaceError.g e_PlaceError.k (raises_own e_PlaceError.b e_PlaceError.t) (by rfl)))) pss_nil))
      (CwR.psst_one (L2.PST.of (ps_ret (pv 2))))))), ?_⟩)
  refine keeps h (by decide) ?_
  rintro ds r o hl ⟨z, n, hz, hn, rfl, rfl, hcase⟩
  refine sq_new (en_lst ea_nil (by simp)) fun p => ?_
  have hparts := parts_len z
  have hrl := TK.replace_len z "x" ".x."
  have e3 : (".x." : Str).length = 3 := by decide
  rw [e3] at hrl
  have eit : EvI T K (iList K (tM1 (fun x xs H Q => ∃ a b, x = .str a ∧ xs = [.str b] ∧ (b.length == 0) = false ∧ a.length + 2 ≤ sizeLine ∧ rNewStrs (Txt.split a b) H Q) (CwR.tReplC (tVar 0) "x" ".x.") (tC (.str ".")))) [some (.str z), some (.int n), some (.ref p), none] [rl p []] ((partsOf z).map D.str) [rl p []] :=
    ei_new (en_split (ev_repl (ev_var rfl) (by rw [e3]; omega)) ev_str (by decide) (by omega))
  rcases hcase with ⟨hn12, hq5, rfl⟩ | ⟨hn12, rfl, rfl⟩
  · refine st_seq (M := fun g r => ∃ x l, chAll n (partsOf z) = some l ∧ g = [some (.str z), some (.int n), some (.ref p), x] ∧ r = [rl p (l.map rowD)])
      (st_forT eit (fun i g r => ∃ x l, chAll n ((partsOf z).take i) = some l ∧ g = [some (.str z), some (.int n), some (.ref p), x] ∧ r = [rl p (l.map rowD)]) ⟨_, [], rfl, rfl, rfl⟩ ?_ ?_) ?_
    · rintro i a g r hi hm ⟨x, l, hc, rfl, rfl⟩
      refine ⟨_, _, eg_name, ?_⟩
      have ht := take_snoc hi
      have hlen : l.length ≤ i := by
        have := chAll_len hc
        rw [List.length_take] at this
        omega
      have hil := (List.getElem?_eq_some_iff.mp hi).1
      have bad : chOne n a = none → plainV n z = none := fun hb => by
        have h1 : chAll n ((partsOf z).take (i + 1)) = none := by rw [ht, chAll_app, hc]; simp only [hb]
        unfold plainV
        rw [chAll_pre hi h1]
      have okk : ∀ b, chOne n a = some b → chAll n ((partsOf z).take (i + 1)) = some (l ++ b) := fun b hb => by rw [ht, chAll_app, hc]; simp only [hb]
      refine st_if (et_test (ev_op (ev_var rfl) ev_str od_eqS)) (fun hb => ?_) (fun hb => ?_)
      · have hb : a = ("x" : Str) := by simpa using hb
        have ec : EvA T K (tCons (tTup tNil) (tCons (tVar 1) tNil)) [some (.str z), some (.int n), some (.ref p), some (.str a)] [rl p (l.map rowD)] [rowD [], .int (n : Nat)] [rl p (l.map rowD)] := ea_cons (ev_tup ea_nil (by simp)) (ea_cons (ev_var rfl) ea_nil)
        by_cases hq : okP n []
        · have e1 : chOne n a = some [[]] := by unfold chOne; rw [if_pos hb, if_pos hq]
          refine sq_drop (ev_callC (n := 2) (R := R_check_places cRow cPl) ⟨n, [], hn, by simp, rfl, rfl, by rw [if_pos hn12, oc_y hq]⟩ ec rfl) ?_
          refine st_dropE (ev_append 0 (ev_var rfl) rfl (ev_tup ea_nil (by simp)) rfl (by simp; omega)) ?_
          exact ⟨_, _, okk _ e1, rfl, by rw [List.map_append]; rfl⟩
        · have e1 : chOne n a = none := by unfold chOne; rw [if_pos hb, if_neg hq]
          refine sq_exE (ex_cutA (ex_callC (n := 2) (R := R_check_places cRow cPl) ⟨n, [], hn, by simp, rfl, rfl, by rw [if_pos hn12, oc_n hq]⟩ ec rfl)) ?_
          simp only [bad e1]
          exact ⟨rfl, rfl⟩
      · have hb : a ≠ ("x" : Str) := by simpa using hb
        refine st_if (et_test (ev_op (ev_var rfl) ev_str od_neS)) (fun hb2 => ?_) (fun hb2 => ?_)
        · have hb2 : a ≠ ("" : Str) := by simpa using hb2
          have ec : EvA T K (tCons (tVar 3) (tCons (tVar 1) tNil)) [some (.str z), some (.int n), some (.ref p), some (.str a)] [rl p (l.map rowD)] [.str a, .int (n : Nat)] [rl p (l.map rowD)] := ea_cons (ev_var rfl) (ea_cons (ev_var rfl) ea_nil)
          by_cases hq : okS a.cps.toList ∧ okP n (plc n a.cps.toList)
          · have e1 : chOne n a = some [plc n a.cps.toList] := by unfold chOne; rw [if_neg hb, if_neg hb2, if_pos hq]
            refine st_dropE (ev_append 0 (ev_var rfl) rfl (ev_callC (n := 2) (R := R_places_of cRow cPl) ⟨a, n, hq5 a hm, hn12, rfl, rfl, (oc_y hq).symm⟩ ec rfl) rfl (by simp; omega)) ?_
            exact ⟨_, _, okk _ e1, rfl, by simp⟩
          · have e1 : chOne n a = none := by unfold chOne; rw [if_neg hb, if_neg hb2, if_neg hq]
            refine st_exE (ex_cutA (ex_append 0 (ev_var rfl) rfl (xa_head (ex_callC (n := 2) (R := R_places_of cRow cPl) ⟨a, n, hq5 a hm, hn12, rfl, rfl, (oc_n hq).symm⟩ ec rfl)))) ?_
            simp only [bad e1]
            exact ⟨rfl, rfl⟩
        · have hb2 : a = ("" : Str) := by simpa using hb2
          have e1 : chOne n a = some [] := by unfold chOne; rw [if_neg hb, if_pos hb2]
          exact st_next ⟨_, _, by rw [okk _ e1, List.append_nil], rfl, rfl⟩
    · rintro g r ⟨x, l, hc, rfl, rfl⟩
      rw [List.take_length] at hc
      exact ⟨x, l, hc, rfl, rfl⟩
    · rintro g r ⟨x, l, hc, rfl, rfl⟩
      refine sq_if (et_test (ev_op (ev_var rfl) (en_lst ea_nil (by simp)).ev (od_eqD (vd_o 0 rfl) (vd_f (d := .lst ([].map rowD))) (sh_rows _) (sh_rows [])))) (fun hb => ?_) (fun hb => ?_)
      · have hb : l = [] := by rw [eq_rows] at hb; simpa using hb
        have e1 : plainV n z = none := by unfold plainV; rw [hc, hb]
        refine st_dropA (r1 := [rl p (l.map rowD)]) (r2 := []) (sq_raise ?_)
        simp only [e1]
        exact ⟨rfl, rfl⟩
      · have hb : l ≠ [] := by rw [eq_rows] at hb; simpa using hb
        have e1 : plainV n z = some l := by
          unfold plainV
          rw [hc]
          cases l with
          | nil => exact (hb rfl).elim
          | cons a l => rfl
        refine sq_next (st_retO 0 (ev_var rfl) rfl ?_)
        simp only [e1]
        exact ⟨rfl, rfl⟩
  · refine st_seq (M := fun _ _ => False) (st_forT eit (fun i g r => i ≤ 1 ∧ ∃ x, g = [some (.str ("x" : Str)), some (.int n), some (.ref p), x] ∧ r = [rl p []]) ⟨by omega, _, rfl, rfl⟩ ?_ ?_) ?_
    · rintro i a g r hi hm ⟨hi1, x, rfl, rfl⟩
      refine ⟨_, _, eg_name, ?_⟩
      rw [parts_x] at hi
      have ec : EvA T K (tCons (tTup tNil) (tCons (tVar 1) tNil)) [some (.str ("x" : Str)), some (.int n), some (.ref p), some (.str a)] [rl p []] [rowD [], .int (n : Nat)] [rl p []] := ea_cons (ev_tup ea_nil (by simp)) (ea_cons (ev_var rfl) ea_nil)
      have hcs : i = 0 ∨ i = 1 := by omega
      rcases hcs with rfl | rfl
      · have ea : a = ("" : Str) := by simpa using hi.symm
        subst ea
        refine st_if (et_test (ev_op (ev_var rfl) ev_str od_eqS)) (fun hb => by simp at hb; exact absurd hb (by decide)) (fun hb => st_if (et_test (ev_op (ev_var rfl) ev_str od_neS)) (fun hb2 => by simp at hb2) fun hb2 => st_next ⟨by omega, _, rfl, rfl⟩)
      · have ea : a = ("x" : Str) := by simpa using hi.symm
        subst ea
        refine st_if (et_test (ev_op (ev_var rfl) ev_str od_eqS)) (fun hb => sq_exE (ex_cutA (ex_callC (n := 2) (R := R_check_places cRow cPl) ⟨n, [], hn, by simp, rfl, rfl, by rw [if_neg hn12]⟩ ec rfl)) ⟨rfl, rfl⟩) (fun hb => by simp at hb)
    · rintro g r ⟨hi, _⟩
      rw [parts_x] at hi
      simp at hi
    · intro g r hf
      exact hf.elim
def R_changes_of (cRow cPl : Addr) : Rel := fun ds r o => ∃ (z : Str) (n : Nat), z.length ≤ 1100 ∧ n ≤ 1000 ∧ ds = [.str z, .int n] ∧ r = [] ∧ (((3 ≤ n ∧ n ≤ 12) ∧ (44 ∈ z.cps.toList → (Txt.split z ",").length ≤ 2 ∧ ∀ y ∈ Txt.split z ",", y.length ≤ 1100 ∧ ∀ q ∈ partsOf y, q.length ≤ 500) ∧ (44 ∉ z.cps.toList → ∀ q ∈ partsOf z, q.length ≤ 500) ∧ o = match chgsV n z with | some l => if 0 < l.length ∧ l.length ≤ 400 then .one (.tup (l.map rowD)) [] else .err cPl [] | none => .err cPl []) ∨ (¬ (3 ≤ n ∧ n ≤ 12) ∧ z = ("x" : Str) ∧ o = .err cRow []))
theorem comma_len {n : Nat} : ∀ {l : List Str} {a : List (List Int)}, chComma n l = some a → (∀ y ∈ l, y.length ≤ 1100) → a.length ≤ l.length * 8820
  | [], a, h, _ => by simp [chComma] at h; subst h; simp
  | z :: l, a, h, hy => by
    simp only [chComma] at h
    cases hz : plainV n z with
    | none => rw [hz] at h; cases h
    | some b =>
      rw [hz] at h
      cases hl : chComma n l with
      | none => rw [hl] at h; cases h
      | some c =>
        rw [hl] at h
        cases h
        have h1 := plainV_len hz
        have h2 := comma_len hl fun y hm => hy y (List.mem_cons_of_mem _ hm)
        have h3 := hy z List.mem_cons_self
        simp only [List.length_append, List.length_cons, List.length_reverse, List.length_dropLast]
        rw [Nat.succ_mul]
        omega
theorem sc_changes_of : FnScope ["text", "bells", "found", "part", "row"] ["text", "bells"] (defScope s_changes_of) := ⟨rfl, rfl, rfl, by decide +kernel, rfl, by decide +kernel, by decide +kernel⟩
theorem ok_changes_of (F : Fun K "changes_of" "changes_of" s_changes_of f fd) (B : Bi mg) (e_PlaceError : Er K mg "PlaceError" cPl) (g_MOST_CHANGES : mg "MOST_CHANGES" = some uM ∧ RelV (.int 400) uM) (c_plain_changes : CalT P w K mg base T "plain_changes" 5 ["text", "bells"] (R_plain cRow cPl)) : FnOk P w K mg base (L2.CX P w) 6 f fd ["text", "bells"] (spR T K 2 (R_changes_of cRow cPl)) := by
  obtain ⟨f_p, fd_p, o_plain_changes, m_plain_changes, k_plain_changes, b_plain_changes⟩ := c_plain_changes.ex
  refine F.okX sc_changes_of spR_len (fun cdv A outer s H vs Q E hr h => ⟨_, (pss_cons (TkO.ps_ifS op_notIn_sign (pv 0) rfl (CwR.psst_one (TkO.pst_set (i := 2) sc_changes_of.nd rfl (by first | exact Or.inl rfl | exact Or.inr rfl) (TkO.pet_call o_plain_changes (hr.mono (by decide)) (by rfl) m_plain_changes k_plain_changes b_plain_changes .nil (passes_call (takes_of (E := E) rfl rfl rfl rfl) (fun _ _ _ _ h => h)) (pa_cons (pv 0) (pa_cons (pv 1) pa_nil))))) (L2.psst_cons (L2.PST.of (ps_set (i := 2) sc_changes_of.nd rfl (by first | exact Or.inl rfl | exact Or.inr rfl) (pe_lst pa_nil)))
      (CwR.psst_one (TkO.pst_forT (passes_of rfl) rfl (TkO.pit_of (pi_list (pe_split (pv 0) pe_str))) (pg_name (i := 3) sc_changes_of.nd rfl (by first | exact Or.inl rfl | exact Or.inr rfl)) (L2.psst_cons (TkO.pst_set (i := 4) sc_changes_of.nd rfl (by first | exact Or.inl rfl | exact Or.inr rfl) (TkO.pet_call o_plain_changes (hr.mono (by decide)) (by rfl) m_plain_changes k_plain_changes b_plain_changes .nil (passes_call (takes_of (E := E) rfl rfl rfl rfl) (fun _ _ _ _ h => h)) (pa_cons (pv 3) (pa_cons (pv 1) pa_nil))))
      (CwR.psst_one (L2.PST.of (ps_aug (i := 2) sc_changes_of.nd rfl (by first | exact Or.inl rfl | exact Or.inr rfl) (pe_op op_cat (pv 4) (pe_revL (pe_slice (r := rSlL K) sl_list (pv 4) po_none (po_some (pe_op op_sub (pe_callB (r := rLenX K) call_len (by rfl) B.len PySem.boot_len (pa_cons (pv 4) pa_nil)) pe_int))))) iop_ext))))))))
      (pss_cons (ps_if (pt_not (pt_chain op_lt op_le pe_int (pe_callB (r := rLenX K) call_len (by rfl) B.len PySem.boot_len (pa_cons (pv 2) pa_nil)) (pe_glob (by rfl) g_MOST_CHANGES.1 g_MOST_CHANGES.2))) (pss_one (ps_raise rfl (takes_of (E := E) rfl rfl rfl rfl) (pmk_own PySem.F.excBase_ValueError e_PlaceError.x e_PlaceError.g e_PlaceError.k (raises_own e_PlaceError.b e_PlaceError.t) (by rfl)))) pss_nil)
      (pss_one (ps_ret (pe_tupX (by rfl) B.tuple (pv 2)))))), ?_⟩)
  refine keeps h (by decide) ?_
  rintro ds r o hl ⟨z, n, hz, hn, rfl, rfl, hcase⟩
  -- the end
  have fin : ∀ (g : G) (r : Rs) (x : D) (l : List (List Int)), g[2]? = some (some x) → Vl x r (l.map rowD) → StD T K E (tSeq (tIfS (tNot (tTest (tChain (rI0 fun i j => .bl (decide (i < j))) (rI0 fun i j => .bl (decide (i ≤ j))) (tC (.int 0)) (tCB (rLenX K) (tCons (tVar 2) tNil)) (tC (.int 400))))) (fun _ _ H => E (.ref cPl) none H) tNext) (tRet (tThen (tVar 2) (kTupX K)))) g r
      { nx := fun _ r' => (if 0 < l.length ∧ l.length ≤ 400 then Oc.one (.tup (l.map rowD)) [] else .err cPl []).ok .non r', rt := fun d r' => (if 0 < l.length ∧ l.length ≤ 400 then Oc.one (.tup (l.map rowD)) [] else .err cPl []).ok d r', ex := fun C r' => (if 0 < l.length ∧ l.length ≤ 400 then Oc.one (.tup (l.map rowD)) [] else .err cPl []).er C r' } := fun g r x l h2 hv => by
    refine sq_if (et_not (et_test (ev_chain ev_int (ev_cb (ea_cons (ev_var h2) ea_nil) (ca_len (Or.inr hv))) od_I0b (fun _ => ev_int) (fun _ => od_I0b)))) (fun hb => ?_) (fun hb => ?_)
    · rw [List.length_map] at hb
      have hq : ¬ (0 < l.length ∧ l.length ≤ 400) := fun hq => by
        have h1 : decide ((0 : Int) < (l.length : Int)) = true := decide_eq_true (by omega)
        have h2 : decide ((l.length : Int) ≤ 400) = true := decide_eq_true (by omega)
        rw [h1, h2] at hb
        cases hb
      rw [if_neg hq]
      have := st_dropA (T := T) (K := K) (E := E) (g := g) (r1 := r) (r2 := []) (ts := tSeq (fun _ _ H => E (.ref cPl) none H) (tRet (tThen (tVar 2) (kTupX K)))) (O := { nx := fun _ r' => (Oc.err cPl []).ok .non r', rt := fun d r' => (Oc.err cPl []).ok d r', ex := fun C r' => (Oc.err cPl []).er C r' }) (sq_raise ⟨rfl, rfl⟩)
      rw [List.append_nil] at this
      exact this
    · rw [List.length_map] at hb
      have hq : 0 < l.length ∧ l.length ≤ 400 := by simp at hb; omega
      rw [if_pos hq]
      exact sq_next (st_retA (ev_tux (ev_tupX (ev_var h2) hv)) ⟨rfl, rfl⟩)
  have one : Str.ofString "," = ⟨#[44]⟩ := by decide +kernel
  have etest : ∀ g : G, g[0]? = some (some (.str z)) → EvT T K (tTest (tOp (fun x y H Q => ∃ (c : Nat) (z : Str), x = .str ⟨#[c]⟩ ∧ y = .str z ∧ Q (.bl (!decide (c ∈ z.cps.toList))) H) (tC (.str (Str.ofString ","))) (tVar 0))) g [] (!decide (44 ∈ z.cps.toList)) [] := fun g hg => by
    rw [one]
    exact et_test (ev_op ev_str (ev_var hg) od_nin1)
  rcases hcase with ⟨hn12, hq2, hq1, rfl⟩ | ⟨hn12, rfl, rfl⟩
  · refine sq_if (etest _ rfl) (fun hb => ?_) (fun hb => ?_)
    · have hb : 44 ∉ z.cps.toList := by simpa using hb
      have e0 : chgsV n z = plainV n z := by unfold chgsV; rw [if_neg hb]
      rw [e0]
      cases hp : plainV n z with
      | none => exact sq_exS (ex_callC (n := 2) (R := R_plain cRow cPl) ⟨z, n, by omega, hn, rfl, rfl, Or.inl ⟨hn12, hq1 hb, by rw [hp]⟩⟩ (ea_cons (ev_var rfl) (ea_cons (ev_var rfl) ea_nil)) rfl) ⟨rfl, rfl⟩
      | some l => exact sq_set (ev_callC (n := 2) (R := R_plain cRow cPl) ⟨z, n, by omega, hn, rfl, rfl, Or.inl ⟨hn12, hq1 hb, by rw [hp]⟩⟩ (ea_cons (ev_var rfl) (ea_cons (ev_var rfl) ea_nil)) rfl) (fin _ _ _ l rfl vl_f)
    · have hb : 44 ∈ z.cps.toList := by simpa using hb
      have e0 : chgsV n z = chComma n (Txt.split z ",") := by unfold chgsV; rw [if_pos hb]
      rw [e0]
      obtain ⟨hp2, hpy⟩ := hq2 hb
      refine sq_seq (sq_new (en_lst ea_nil (by simp)) fun p => ?_)
      refine st_seq (M := fun g r => ∃ x y l, chComma n (Txt.split z ",") = some l ∧ g = [some (.str z), some (.int n), some (.ref p), x, y] ∧ r = [rl p (l.map rowD)])
        (st_forT (ei_new (en_split (ev_var rfl) ev_str (by decide) (by omega))) (fun i g r => ∃ x y l, chComma n ((Txt.split z ",").take i) = some l ∧ g = [some (.str z), some (.int n), some (.ref p), x, y] ∧ r = [rl p (l.map rowD)]) ⟨_, _, [], rfl, rfl, rfl⟩ ?_ ?_) ?_
      · rintro i a g r hi hm ⟨x, y, l, hc, rfl, rfl⟩
        refine ⟨_, _, eg_name, ?_⟩
        have ht := take_snoc hi
        have hil := (List.getElem?_eq_some_iff.mp hi).1
        have hll : l.length ≤ 2 * 8820 := by
          have := comma_len hc fun y hy => (hpy y (List.mem_of_mem_take hy)).1
          have h3 : ((Txt.split z ",").take i).length ≤ 2 := by rw [List.length_take]; omega
          have := Nat.mul_le_mul_right 8820 h3
          omega
        have hal := (hpy a hm).1
        have eca : EvA T K (tCons (tVar 3) (tCons (tVar 1) tNil)) [some (.str z), some (.int n), some (.ref p), some (.str a), y] [rl p (l.map rowD)] [.str a, .int (n : Nat)] [rl p (l.map rowD)] := ea_cons (ev_var rfl) (ea_cons (ev_var rfl) ea_nil)
        cases hp : plainV n a with
        | none =>
          have h1 : chComma n ((Txt.split z ",").take (i + 1)) = none := by rw [ht, chComma_app, hc]; simp only [hp]
          refine sq_exS (ex_cutA (ex_callC (n := 2) (R := R_plain cRow cPl) ⟨a, n, by omega, hn, rfl, rfl, Or.inl ⟨hn12, (hpy a hm).2, by rw [hp]⟩⟩ eca rfl)) ?_
          rw [chComma_pre hi h1]
          exact ⟨rfl, rfl⟩
        | some b =>
          have hbl := plainV_len hp
          refine sq_set (ev_callC (n := 2) (R := R_plain cRow cPl) ⟨a, n, by omega, hn, rfl, rfl, Or.inl ⟨hn12, (hpy a hm).2, by rw [hp]⟩⟩ eca rfl) ?_
          have hb1 := List.length_pos_iff.mpr (plainV_ne hp).1
          have ecut : cutD (b.map rowD) none (some (((b.map rowD).length : Int) - 1)) = b.dropLast.map rowD := by
            rw [List.length_map, cut_upto (by omega), List.dropLast_eq_take, ← List.map_take]
            congr 2
            omega
          have esl : EvN T K (tSl (rSlL K) (tVar 4) tNoPart (tPart (tOp (rI0 fun i j => .int (i - j)) (tCB (rLenX K) (tCons (tVar 4) tNil)) (tC (.int 1))))) [some (.str z), some (.int n), some (.ref p), some (.str a), some (.lst (b.map rowD))] [rl p (l.map rowD)] (b.dropLast.map rowD) [rl p (l.map rowD)] := by
            rw [← ecut]
            exact en_slL (ev_var rfl) eo_none (eo_some (ev_op (ev_cb (ea_cons (ev_var rfl) ea_nil) (ca_len vs_f)) ev_int od_I0i)) vl_f
          refine st_augD rfl (en_cat (ev_var rfl) (en_rev esl.ev vl_f).ev vl_f vl_f (by simp; omega)).ev (od_ext 0 rfl vl_f (by simp; omega)) ?_
          refine ⟨_, _, l ++ (b ++ b.dropLast.reverse), ?_, rfl, ?_⟩
          · rw [ht, chComma_app, hc]; simp only [hp]
          · simp [List.map_append, List.map_reverse]
      · rintro g r ⟨x, y, l, hc, rfl, rfl⟩
        rw [List.take_length] at hc
        exact ⟨x, y, l, hc, rfl, rfl⟩
      · rintro g r ⟨x, y, l, hc, rfl, rfl⟩
        rw [hc]
        exact fin _ _ _ l rfl (vl_o 0 rfl)
  · refine sq_if (etest _ rfl) (fun hb => ?_) (fun hb => ?_)
    · exact sq_exS (ex_callC (n := 2) (R := R_plain cRow cPl) ⟨_, n, by omega, hn, rfl, rfl, Or.inr ⟨hn12, rfl, rfl⟩⟩ (ea_cons (ev_var rfl) (ea_cons (ev_var rfl) ea_nil)) rfl) ⟨rfl, rfl⟩
    · have : 44 ∉ (Str.ofString "x").cps.toList := by decide +kernel
      simp [this] at hb

end
end Bs
namespace Bs
open PySem DL
/-! plain: notation, all changes -/
def notaF (rows : List (List Int)) (i : Nat) : List Nat :=
  if rows.getD i [] = [] then [120] else (if 0 < i ∧ rows.getD (i - 1) [] ≠ [] then [46] else []) ++ (rows.getD i []).map bellC
def nota (rows : List (List Int)) : List Nat := (List.range rows.length).flatMap (notaF rows)
abbrev AcS := List (List Int) × List (List Int × Int)
def acStep (n : Int) (st : AcS) : AcS := match st.2.getLast? with
  | none => st
  | some (ps, k) => if n < k then (if (ps.length : Int) < n then st.1 ++ [ps] else st.1, st.2.dropLast)
    else (st.1, st.2.dropLast ++ [(ps ++ [k], k + 1)] ++ (if k < n then [(ps, k + 2)] else []))
def acB (st : AcS) : Bool := decide (st.1.length ≤ 200) && (decide (st.2.length ≤ 100) && st.2.all fun q => decide (q.1.length ≤ 50) && decide (-1000 ≤ q.2 ∧ q.2 ≤ 1000))
def acOk (n : Int) : Nat → AcS → Bool
  | 0, st => st.2.isEmpty && acB st
  | m + 1, st => acB st && (st.2.isEmpty || acOk n m (acStep n st))
def acRes (n : Int) : Nat → AcS → List (List Int)
  | 0, st => st.1
  | m + 1, st => if st.2.isEmpty = true then st.1 else acRes n m (acStep n st)
def ac0 : AcS := ([], [([], 1)])
def allV (n : Nat) : List (List Int) := srtR (acRes n 400 ac0)
theorem ac_fine : ∀ n : Nat, 3 ≤ n → n ≤ 8 → acOk n 400 ac0 = true := by
  have : ∀ n : Fin 9, 3 ≤ n.val → acOk n.val 400 ac0 = true := by decide +kernel
  intro n h1 h2
  exact this ⟨n, by omega⟩ h1
def absI (i : Int) : Int := if i < 0 then -i else i
def hereV (row : List Int) : Int := (row.map absI).sum
def lcRow (n : Int) (row : List Int) : List (List Int) :=
  (if hereV row < n then [row ++ [1]] else []) ++ (if hereV row + 1 < n then [row ++ [-2]] else []) ++ (if hereV row = n then [row] else [])
def lcIt (n : Int) : Nat → List (List Int)
  | 0 => [[]]
  | s + 1 => (lcIt n s).flatMap (lcRow n)
def lcPl (row : List Int) : List Int := ((List.range row.length).filter fun k => decide (row.getD k 0 = 1)).map fun k => 1 + hereV (row.take k)
def lcRows (n : Int) (rows : List (List Int)) : List (List Int) := rows.flatMap fun row => if ((lcPl row).length : Int) < n then [lcPl row] else []
def lawV (n : Nat) : List (List Int) := srtR (lcRows n (lcIt n n))
theorem all_law : ∀ n : Nat, 3 ≤ n → n ≤ 8 → allV n = lawV n := by
  have : ∀ n : Fin 9, 3 ≤ n.val → allV n.val = lawV n.val := by decide +kernel
  intro n h1 h2
  exact this ⟨n, by omega⟩ h1
theorem lc_fine : ∀ n : Nat, 3 ≤ n → n ≤ 8 → ∀ s, s ≤ n → (lcIt n s).length ≤ 500 ∧ ∀ row ∈ lcIt n s, row.length ≤ 20 := by
  have : ∀ n : Fin 9, 3 ≤ n.val → ∀ s : Fin 9, s.val ≤ n.val → (lcIt n.val s.val).length ≤ 500 ∧ ∀ row ∈ lcIt n.val s.val, row.length ≤ 20 := by decide +kernel
  intro n h1 h2 s hs
  exact this ⟨n, by omega⟩ h1 ⟨s, by omega⟩ hs
end Bs
namespace Bs
open PySem DL L2 TL
/-! plain: a notation is read sign by sign -/
def tok : List Nat → List Nat → List (List Nat)
  | acc, [] => [acc]
  | acc, c :: r => if c = 46 then acc :: tok [] r else if c = 120 then acc :: [120] :: tok [] r else tok (acc ++ [c]) r
theorem spl_tok : ∀ (cs acc : List Nat), spl [46] 0 acc (StrLaws.replL [120] [46, 120, 46] cs) = tok acc cs
  | [], acc => by rw [StrLaws.replL_nil, spl_nil]; rfl
  | c :: r, acc => by
    unfold tok
    by_cases h1 : c = 46
    · subst h1
      rw [if_pos rfl, StrLaws.replL_miss (by simp), spl_hit (by rfl), ← spl_tok r []]
      rfl
    · rw [if_neg h1]
      by_cases h2 : c = 120
      · subst h2
        rw [if_pos rfl, StrLaws.replL_hit (by simp) (by rfl)]
        show spl [46] 0 acc (46 :: 120 :: 46 :: StrLaws.replL [120] [46, 120, 46] r) = _
        rw [spl_hit (by rfl)]
        show acc :: spl [46] 0 [] (120 :: 46 :: StrLaws.replL [120] [46, 120, 46] r) = _
        rw [spl_miss (by rfl), spl_hit (by rfl), ← spl_tok r []]
        rfl
      · rw [if_neg h2, StrLaws.replL_miss (by simpa using h2), spl_miss (by simp [pre, h1]), spl_tok r]
theorem parts_tok (z : Str) : (partsOf z).map tl = tok [] z.cps.toList := by
  have e1 : tl (Str.ofString ".") = [46] := by decide +kernel
  have e2 : (Str.ofString "x").cps.toList = [120] := by decide +kernel
  have e3 : (Str.ofString ".x.").cps.toList = [46, 120, 46] := by decide +kernel
  unfold partsOf
  rw [split_spl _ _ (by rw [e1]; simp) (kind_ok (by decide +kernel)), e1]
  show spl [46] 0 [] (Txt.replace z (Str.ofString "x") (Str.ofString ".x.")).cps.toList = _
  rw [StrLaws.replace_list (by decide +kernel), e2, e3, spl_tok]
def chOneL (n : Nat) (cs : List Nat) : Option (List (List Int)) :=
  if cs = [120] then (if okP n [] then some [[]] else none)
  else if cs = [] then some []
  else if okS cs ∧ okP n (plc n cs) then some [plc n cs] else none
theorem chOne_L (n : Nat) (z : Str) : chOne n z = chOneL n (tl z) := by
  have e1 : (z = Str.ofString "x") ↔ tl z = [120] := by
    constructor
    · intro h; rw [h]; decide +kernel
    · intro h; exact DL.str_ext (by rw [show z.cps.toList = tl z from rfl, h]; decide +kernel)
  have e2 : (z = Str.ofString "") ↔ tl z = [] := by
    constructor
    · intro h; rw [h]; decide +kernel
    · intro h; exact DL.str_ext (by rw [show z.cps.toList = tl z from rfl, h]; decide +kernel)
  unfold chOne chOneL
  simp only [e1, e2]
def chAllL (n : Nat) : List (List Nat) → Option (List (List Int))
  | [] => some []
  | z :: r => match chOneL n z with
    | none => none
    | some a => match chAllL n r with
      | none => none
      | some b => some (a ++ b)
theorem chAll_L (n : Nat) : ∀ l : List Str, chAll n l = chAllL n (l.map tl)
  | [] => rfl
  | z :: l => by
    rw [List.map_cons, chAll, chAllL, chOne_L, chAll_L n l]
    all_goals (rcases chOneL n (tl z) with _ | a)
    all_goals (first | rfl | (cases chAllL n (l.map tl) <;> rfl))
theorem plainV_tok (n : Nat) (z : Str) : plainV n z = match chAllL n (tok [] z.cps.toList) with
    | some (a :: l) => some (a :: l)
    | _ => none := by
  unfold plainV
  rw [chAll_L, parts_tok]
  all_goals (rcases chAllL n (tok [] z.cps.toList) with _ | l)
  all_goals (first | rfl | (cases l <;> rfl))
theorem tok_signs {sg : List Nat} (h : ∀ c ∈ sg, c ≠ 46 ∧ c ≠ 120) : ∀ (acc r : List Nat), tok acc (sg ++ r) = tok (acc ++ sg) r := by
  induction sg with
  | nil => intro acc r; simp
  | cons c sg ih =>
    intro acc r
    have h1 := h c List.mem_cons_self
    show tok acc (c :: (sg ++ r)) = _
    rw [tok, if_neg h1.1, if_neg h1.2, ih (fun d hd => h d (List.mem_cons_of_mem _ hd))]
    simp
theorem signs_plain : ∀ c ∈ SIGNS.cps.toList, c ≠ 46 ∧ c ≠ 120 ∧ c ≠ 44 := by decide +kernel
theorem okS_plain {cs : List Nat} (h : okS cs) : ∀ c ∈ cs, c ≠ 46 ∧ c ≠ 120 := fun c hc => ⟨(signs_plain c (h.2 c hc)).1, (signs_plain c (h.2 c hc)).2.1⟩
theorem chOneL_signs {n : Nat} {cs : List Nat} (h : okS cs) (hp : okP n (plc n cs)) : chOneL n cs = some [plc n cs] := by
  unfold chOneL
  have h1 : cs ≠ [120] := fun e => by
    have := (okS_plain h 120 (by rw [e]; simp)).2
    exact this rfl
  rw [if_neg h1, if_neg h.1, if_pos ⟨h, hp⟩]
/-- cs tells rows, pend is the row that may go on -/
def Rd (n : Nat) (cs : List Nat) (rows : List (List Int)) : Prop := ∃ (pend : List Nat) (done : List (List Int)), rows = done ++ (if pend = [] then [] else [plc n pend]) ∧ (pend ≠ [] → okS pend ∧ okP n (plc n pend)) ∧
  (rows.getLast? = some [] ∨ pend ≠ []) ∧ ∀ r, chAllL n (tok [] (cs ++ r)) = match chAllL n (tok pend r) with
    | none => none
    | some b => some (done ++ b)
/-- how a change may be written -/
def Pc (n : Nat) (row : List Int) (cs : List Nat) : Prop := (row = [] ∧ cs = [120] ∧ okP n []) ∨ (row ≠ [] ∧ okS cs ∧ plc n cs = row ∧ okP n row)
theorem Rd.first {n : Nat} {row : List Int} {cs : List Nat} (h : Pc n row cs) : Rd n cs [row] := by
  rcases h with ⟨rfl, rfl, hp⟩ | ⟨h1, h2, h3, h4⟩
  · refine ⟨[], [[]], by simp, fun z => (z rfl).elim, Or.inl rfl, fun r => ?_⟩
    show chAllL n (tok [] (120 :: r)) = _
    rw [tok, if_neg (by decide), if_pos rfl]
    have e0 : chOneL n [] = some [] := by unfold chOneL; rw [if_neg (by decide), if_pos rfl]
    have e1 : chOneL n [120] = some [[]] := by unfold chOneL; rw [if_pos rfl, if_pos hp]
    rw [chAllL, e0, chAllL, e1]
    cases chAllL n (tok [] r) <;> simp
  · refine ⟨cs, [], by rw [if_neg h2.1, h3]; rfl, fun _ => ⟨h2, by rw [h3]; exact h4⟩, Or.inr h2.1, fun r => ?_⟩
    rw [tok_signs (okS_plain h2)]
    show chAllL n (tok cs r) = _
    cases chAllL n (tok cs r) <;> simp
theorem Rd.next {n : Nat} {rows : List (List Int)} {row : List Int} {cs sep pc : List Nat} (h : Rd n cs rows) (hp : Pc n row pc) (hs : sep = [46] ∨ (sep = [] ∧ (row = [] ∨ rows.getLast? = some []))) : Rd n (cs ++ sep ++ pc) (rows ++ [row]) := by
  obtain ⟨pend, done, h1, h2, h3, h4⟩ := h
  have e0 : chOneL n [] = some [] := by unfold chOneL; rw [if_neg (by decide), if_pos rfl]
  -- what is pending ends
  have flush : ∀ x : List (List Nat), chAllL n (pend :: x) = match chAllL n x with
      | none => none
      | some b => some ((if pend = [] then [] else [plc n pend]) ++ b) := fun x => by
    rw [chAllL]
    by_cases hz : pend = []
    · rw [hz, e0, if_pos rfl]
    · obtain ⟨a, b⟩ := h2 hz
      rw [chOneL_signs a b, if_neg hz]
  -- behind what is pending
  have key : ∀ r, (∃ x, tok pend (sep ++ pc ++ r) = pend :: x ∧ (x = tok [] (pc ++ r) ∨ (row = [] ∧ pc = [120] ∧ x = [120] :: tok [] r))) ∨ (pend = [] ∧ sep = []) := fun r => by
    rcases hs with hs | ⟨hs, hr⟩
    · subst hs
      refine Or.inl ⟨tok [] (pc ++ r), ?_, Or.inl rfl⟩
      show tok pend (46 :: (pc ++ r)) = _
      rw [tok, if_pos rfl]
    · subst hs
      rcases hr with hr | hr
      · rcases hp with ⟨_, hpc, _⟩ | ⟨hq, _⟩
        · subst hpc
          refine Or.inl ⟨[120] :: tok [] r, ?_, Or.inr ⟨hr, rfl, rfl⟩⟩
          show tok pend (120 :: r) = _
          rw [tok, if_neg (by decide), if_pos rfl]
        · exact (hq hr).elim
      · by_cases hz : pend = []
        · exact Or.inr ⟨hz, rfl⟩
        · exfalso
          rw [h1, if_neg hz, List.getLast?_append] at hr
          simp at hr
          obtain ⟨a, b⟩ := h2 hz
          have : okS pend := a
          have hl : (plc n pend).length ≥ 1 := by
            have hb : 0 < pend.length := List.length_pos_iff.mpr a.1
            unfold plc
            simp only
            split <;> split <;> simp <;> omega
          rw [hr] at hl
          simp at hl
  have hd : done ++ (if pend = [] then [] else [plc n pend]) = rows := h1.symm
  rcases hp with ⟨rfl, rfl, hok⟩ | ⟨g1, g2, g3, g4⟩
  · have e1 : chOneL n [120] = some [[]] := by unfold chOneL; rw [if_pos rfl, if_pos hok]
    have x1 : ∀ r, chAllL n ([120] :: tok [] r) = match chAllL n (tok [] r) with
        | none => none
        | some b => some ([[]] ++ b) := fun r => by rw [chAllL, e1]
    have x2 : ∀ r, tok [] ([120] ++ r) = [] :: [120] :: tok [] r := fun r => by
      show tok [] (120 :: r) = _
      rw [tok, if_neg (by decide), if_pos rfl]
    refine ⟨[], rows ++ [[]], by simp, fun z => (z rfl).elim, Or.inl (by simp), fun r => ?_⟩
    rw [List.append_assoc, List.append_assoc, h4, ← List.append_assoc]
    rcases key r with ⟨x, k1, k2⟩ | ⟨k1, k2⟩
    · rw [k1, flush]
      have hx : chAllL n x = match chAllL n (tok [] r) with
          | none => none
          | some b => some ([[]] ++ b) := by
        rcases k2 with k2 | ⟨_, _, k2⟩
        · rw [k2, x2, chAllL, e0, x1]
          cases chAllL n (tok [] r) <;> simp
        · rw [k2, x1]
      rw [hx, ← hd]
      cases chAllL n (tok [] r) <;> simp
    · subst k1
      subst k2
      show (match chAllL n (tok [] ([120] ++ r)) with | none => none | some b => some (done ++ b)) = _
      rw [x2, chAllL, e0, x1, ← hd]
      cases chAllL n (tok [] r) <;> simp
  · refine ⟨pc, rows, by rw [if_neg g2.1, g3], fun _ => ⟨g2, by rw [g3]; exact g4⟩, Or.inr g2.1, fun r => ?_⟩
    rw [List.append_assoc, List.append_assoc, h4, ← List.append_assoc]
    have x3 : tok [] (pc ++ r) = tok pc r := by rw [tok_signs (okS_plain g2)]; rfl
    rcases key r with ⟨x, k1, k2⟩ | ⟨k1, k2⟩
    · rw [k1, flush]
      rcases k2 with k2 | ⟨k2, _⟩
      · rw [k2, x3, ← hd]
        cases chAllL n (tok pc r) <;> simp
      · exact (g1 k2).elim
    · subst k1
      subst k2
      show (match chAllL n (tok [] (pc ++ r)) with | none => none | some b => some (done ++ b)) = _
      rw [x3, ← hd]
      cases chAllL n (tok pc r) <;> simp
theorem Rd.end {n : Nat} {rows : List (List Int)} {cs : List Nat} (h : Rd n cs rows) : chAllL n (tok [] cs) = some rows := by
  obtain ⟨pend, done, h1, h2, h3, h4⟩ := h
  have := h4 []
  rw [List.append_nil] at this
  rw [this, h1]
  show (match chAllL n [pend] with | none => none | some b => some (done ++ b)) = _
  by_cases hz : pend = []
  · rw [hz, if_pos rfl]
    have e0 : chOneL n [] = some [] := by unfold chOneL; rw [if_neg (by decide), if_pos rfl]
    rw [chAllL, e0]
    rfl
  · obtain ⟨a, b⟩ := h2 hz
    rw [if_neg hz, chAllL, chOneL_signs a b]
    rfl
theorem Rd.plain {n : Nat} {rows : List (List Int)} {z : Str} (h : Rd n z.cps.toList rows) (hr : rows ≠ []) : plainV n z = some rows := by
  rw [plainV_tok, h.end]
  cases rows with
  | nil => exact (hr rfl).elim
  | cons a l => rfl
/-! all changes, seen one by one -/
def subs : List Int → List (List Int)
  | [] => [[]]
  | b :: l => subs l ++ (subs l).map (b :: ·)
theorem heap_fine : ∀ n : Nat, 3 ≤ n → n ≤ 8 → (lawV n).length ≤ 60 ∧ lawV n ≠ [] ∧ ∀ p ∈ lawV n, okP n p ∧ p.length < n := by
  have : ∀ n : Fin 9, 3 ≤ n.val → (lawV n.val).length ≤ 60 ∧ lawV n.val ≠ [] ∧ ∀ p ∈ lawV n.val, okP n.val p ∧ p.length < n.val := by decide +kernel
  intro n h1 h2
  exact this ⟨n, by omega⟩ h1
theorem heap_subs : ∀ n : Nat, 3 ≤ n → n ≤ 8 → ∀ p ∈ subs (rng n), decide (okP n p) = decide (p ∈ lawV n ++ [rng n]) := by
  have : ∀ n : Fin 9, 3 ≤ n.val → ∀ p ∈ subs (rng n.val), decide (okP n.val p) = decide (p ∈ lawV n.val ++ [rng n.val]) := by decide +kernel
  intro n h1 h2
  exact this ⟨n, by omega⟩ h1
/-- the first place, the last one left out -/
def cut1 (row : List Int) : List Int := row.drop 1
def may1 (row : List Int) : Bool := decide (1 < row.length) && (decide (row.getD 0 0 = 1) && decide (row.getD 1 0 % 2 = 0))
def may2 (n : Nat) (row : List Int) : Bool := decide (1 < row.length) && (decide (row.getD (row.length - 1) 0 = n) && decide (((n : Int) - row.getD (row.length - 2) 0) % 2 = 1))
theorem heap_cuts : ∀ n : Nat, 3 ≤ n → n ≤ 8 → ∀ p ∈ lawV n, p ≠ [] → ∀ b1 b2 : Bool, ∀ m1 m2 : List Int, m1 = (if may1 p && b1 then p.drop 1 else p) → m2 = (if may2 n m1 && b2 then m1.dropLast else m1) → m2 ≠ [] ∧ (∀ c ∈ m2, 1 ≤ c ∧ c ≤ 12) ∧ plc n (m2.map bellC) = p := by
  have : ∀ n : Fin 9, 3 ≤ n.val → ∀ p ∈ lawV n.val, p ≠ [] → ∀ b1 b2 : Bool, (let m1 := (if may1 p && b1 then p.drop 1 else p); let m2 := (if may2 n.val m1 && b2 then m1.dropLast else m1); m2 ≠ [] ∧ (∀ c ∈ m2, 1 ≤ c ∧ c ≤ 12) ∧ plc n.val (m2.map bellC) = p) := by decide +kernel
  intro n h1 h2 p hp hne b1 b2 m1 m2 e1 e2
  subst e1
  subst e2
  exact this ⟨n, by omega⟩ h1 p hp hne b1 b2
theorem okS_bells {l : List Int} (h0 : l ≠ []) (h : ∀ c ∈ l, 1 ≤ c ∧ c ≤ 12) : okS (l.map bellC) := by
  refine ⟨by simpa using h0, fun c hc => ?_⟩
  obtain ⟨b, hb, rfl⟩ := List.mem_map.mp hc
  have := h b hb
  unfold bellC
  have h12 : (b - 1).toNat < SIGNS.cps.toList.length := by rw [signs_len]; omega
  rw [List.getD_eq_getElem?_getD, List.getElem?_eq_getElem h12]
  exact List.getElem_mem h12
/-! the dice, many times -/
def drawS (heap : List (List Int)) : Nat → S3 → List (List Int) × S3
  | 0, s => ([], s)
  | k + 1, s => ((drawS heap k s).1 ++ [heap.getD (rollV (drawS heap k s).2 heap.length).toNat []], rollD (drawS heap k s).2 heap.length)
theorem drawS_mem {heap : List (List Int)} (h : heap ≠ []) : ∀ (k : Nat) (s : S3), (drawS heap k s).1.length = k ∧ ∀ p ∈ (drawS heap k s).1, p ∈ heap
  | 0, s => ⟨rfl, fun p hp => by simp [drawS] at hp⟩
  | k + 1, s => by
    obtain ⟨h1, h2⟩ := drawS_mem h k s
    refine ⟨by show ((drawS heap k s).1 ++ [_] : List (List Int)).length = _; rw [List.length_append, h1]; rfl, fun p hp => ?_⟩
    rcases List.mem_append.mp (show p ∈ _ ++ _ from hp) with z | z
    · exact h2 p z
    · have hl : (0 : Int) < heap.length := by have := List.length_pos_iff.mpr h; omega
      have := rollV_lt (s := (drawS heap k s).2) hl
      rw [List.mem_singleton.mp z, List.getD_eq_getElem?_getD, List.getElem?_eq_getElem (by omega)]
      exact List.getElem_mem _
def subS : List Int → S3 → List Int × S3
  | [], s => ([], s)
  | b :: l, s => if rollV s 2 = 0 then (b :: (subS l (rollD s 2)).1, (subS l (rollD s 2)).2) else subS l (rollD s 2)
theorem subS_mem : ∀ (l : List Int) (s : S3), (subS l s).1 ∈ subs l
  | [], s => by simp [subS, subs]
  | b :: l, s => by
    unfold subS subs
    split
    · exact List.mem_append_right _ (List.mem_map.mpr ⟨_, subS_mem l _, rfl⟩)
    · exact List.mem_append_left _ (subS_mem l _)
end Bs
namespace Bs
open PySem DL L2 TL
theorem good_of {l : List Int} (h1 : 3 ≤ l.length) (h2 : l.length ≤ 12) (h : l.Perm (rng l.length)) : good l := by
  refine ⟨h1, h2, ?_⟩
  have hs : (rng l.length).Pairwise (· ≤ ·) := by
    unfold rng
    rw [List.pairwise_map]
    exact List.pairwise_lt_range.imp fun h => by omega
  exact (srt_uniq h.symm hs).symm
theorem chgL_perm (p : List Int) : ∀ (k : Nat) (l : List Int), (chgL p k l).Perm l
  | k, [] => by rw [chgL]
  | k, [a] => by rw [chgL]
  | k, a :: b :: rest => by
    rw [chgL]
    split
    · exact (chgL_perm p (k + 1) (b :: rest)).cons a
    · exact ((chgL_perm p (k + 2) rest).cons a |>.cons b).trans (List.Perm.swap _ _ _)
  termination_by _ l => l.length
theorem chg_perm (p l : List Int) : (chg p l).Perm l := chgL_perm p 0 l
theorem any_rows (ls : List (List Int)) (a : List Int) : ((ls.map rowD).any fun z => eqD z (rowD a)) = decide (a ∈ ls) := by
  induction ls with
  | nil => rfl
  | cons b ls ih =>
    rw [List.map_cons, List.any_cons, ih, eq_row, ← Bool.decide_or]
    exact decide_eq_decide.mpr (by rw [List.mem_cons]; exact or_congr_left eq_comm)
theorem okP_len {n : Nat} {p : List Int} (h : okP n p) : p.length ≤ n ∧ ∀ b ∈ p, 1 ≤ b ∧ b ≤ n := by
  refine ⟨?_, h.2.1⟩
  have h2 : okE n 0 p := okE_of h.2.2
  have key : ∀ (a : Int) (p : List Int), okE n a p → (p.length : Int) + a ≤ n := by
    intro a p
    induction p generalizing a with
    | nil => intro h; have := h.1; simp; omega
    | cons b p ih =>
      intro h
      have h1 := h.1.1
      have := ih b h.2
      rw [List.length_cons]
      omega
  have := key 0 p h2
  omega
/-- the text of a change -/
def pcs (one mid : List Int) : List Nat := if one = [] then [120] else mid.map bellC
theorem pcs_len {one mid : List Int} : (pcs one mid).length ≤ mid.length + 1 := by unfold pcs; split <;> simp
end Bs
namespace DL
open PySem PySem.Spec PyProof.Rows L2
section
variable {T : Tb} {K : PySem.W.Frag} {g : G} {r r' : Rs} {t1 t2 t3 t4 : TT}
theorem et_and4y {b : Bool} (h1 : EvT T K t1 g r true r) (h2 : EvT T K t2 g r true r) (h3 : EvT T K t3 g r true r) (h4 : EvT T K t4 g r b r') : EvT T K (tAnd t1 (tAnd t2 (tAnd t3 t4))) g r b r' := et_and2 h1 (et_and2 h2 (et_and2 h3 h4))
theorem et_and4n {b1 b2 b3 : Bool} (h1 : EvT T K t1 g r b1 r) (h2 : b1 = true → EvT T K t2 g r b2 r) (h3 : b1 = true → b2 = true → EvT T K t3 g r b3 r) (hb : (b1 && (b2 && b3)) = false) : EvT T K (tAnd t1 (tAnd t2 (tAnd t3 t4))) g r false r := by
  cases b1 with
  | false => exact et_and0 h1
  | true =>
    cases b2 with
    | false => exact et_and2 h1 (et_and0 (h2 rfl))
    | true =>
      cases b3 with
      | false => exact et_and2 h1 (et_and2 (h2 rfl) (et_and0 (h3 rfl rfl)))
      | true => cases hb
end
theorem cut_m1 {ds : List D} : cutD ds none (some (-1)) = ds.dropLast := by
  unfold cutD
  rw [HT.sIx_none, List.drop_zero, List.dropLast_eq_take]
  congr 1
  unfold HT.sIx
  cases ds with
  | nil => rfl
  | cons a l =>
    simp [Builtin.Slice.sliceAdjust]
    try omega
end DL
namespace Bs
open PySem DL L2 TL
def PcL (n : Nat) : List (List Int) → List (List Nat) → Prop
  | [], [] => True
  | r :: rs, c :: cs => Pc n r c ∧ PcL n rs cs
  | _, _ => False
theorem PcL.snoc {n : Nat} {r : List Int} {c : List Nat} (h : Pc n r c) : ∀ {rs : List (List Int)} {cs : List (List Nat)}, PcL n rs cs → PcL n (rs ++ [r]) (cs ++ [c])
  | [], [], _ => ⟨h, True.intro⟩
  | _ :: _, _ :: _, z => ⟨z.1, PcL.snoc h z.2⟩
  | [], _ :: _, z => z.elim
  | _ :: _, [], z => z.elim
theorem PcL.len {n : Nat} : ∀ {rs : List (List Int)} {cs : List (List Nat)}, PcL n rs cs → rs.length = cs.length
  | [], [], _ => rfl
  | _ :: _, _ :: _, z => congrArg (· + 1) (PcL.len z.2)
  | [], _ :: _, z => z.elim
  | _ :: _, [], z => z.elim
theorem PcL.get {n : Nat} : ∀ {rs : List (List Int)} {cs : List (List Nat)} {i : Nat} {r : List Int}, PcL n rs cs → rs[i]? = some r → ∃ c, cs[i]? = some c ∧ Pc n r c
  | [], [], _, _, _, e => by simp at e
  | r :: rs, c :: cs, 0, _, z, e => by simp at e; subst e; exact ⟨c, rfl, z.1⟩
  | r :: rs, c :: cs, i + 1, _, z, e => by
    obtain ⟨c', h1, h2⟩ := PcL.get (i := i) z.2 (by simpa using e)
    exact ⟨c', by simpa using h1, h2⟩
  | [], _ :: _, _, _, z, _ => z.elim
  | _ :: _, [], _, _, z, _ => z.elim
abbrev strD (l : List Nat) : D := .str ⟨l.toArray⟩
theorem bellC_signs {b : Int} (h : 1 ≤ b ∧ b ≤ 12) : bellC b ∈ SIGNS.cps.toList := by
  unfold bellC
  have h12 : (b - 1).toNat < SIGNS.cps.toList.length := by rw [signs_len]; omega
  rw [List.getD_eq_getElem?_getD, List.getElem?_eq_getElem h12]
  exact List.getElem_mem h12
theorem pcs_plain {one mid : List Int} (h : ∀ b ∈ mid, 1 ≤ b ∧ b ≤ 12) : ∀ c ∈ pcs one mid, c ≠ 44 := by
  intro c hc
  unfold pcs at hc
  split at hc
  · simp at hc; subst hc; decide
  · obtain ⟨b, hb, rfl⟩ := List.mem_map.mp hc
    exact (signs_plain _ (bellC_signs (h b hb))).2.2
/-- the piece of a row in the law's own text -/
theorem nota_piece {rows : List (List Int)} {i : Nat} : notaF rows i = (if rows.getD i [] ≠ [] ∧ (0 < i ∧ rows.getD (i - 1) [] ≠ []) then [46] else []) ++ pcs (rows.getD i []) (rows.getD i []) := by
  unfold notaF pcs
  by_cases h : rows.getD i [] = []
  · rw [if_pos h, if_pos h, if_neg (fun z => z.1 h)]
    rfl
  · rw [if_neg h, if_neg h]
    by_cases h2 : 0 < i ∧ rows.getD (i - 1) [] ≠ []
    · rw [if_pos h2, if_pos ⟨h, h2⟩]
    · rw [if_neg h2, if_neg (fun z => h2 z.2)]
theorem part_short {z q : Str} (h : q ∈ partsOf z) : q.length ≤ z.length + (z.length + 1) * 3 := by
  have hl := TK.replace_len z "x" ".x."
  have e : (".x." : Str).length = 3 := by decide
  rw [e] at hl
  refine Nat.le_trans ?_ hl
  have e1 : tl (Str.ofString ".") = [46] := by decide +kernel
  have hm : tl q ∈ spl [46] 0 [] (tl (Txt.replace z "x" ".x.")) := by
    rw [← e1, ← split_spl _ _ (by rw [e1]; simp) (kind_ok (by decide +kernel))]
    exact List.mem_map_of_mem h
  have key : ∀ (l acc x : List Nat), x ∈ spl [46] 0 acc l → x.length ≤ acc.length + l.length := by
    intro l
    induction l with
    | nil => intro acc x hx; rw [spl_nil] at hx; simp at hx; subst hx; simp
    | cons c l ih =>
      intro acc x hx
      by_cases hp : pre [46] (c :: l) = true
      · rw [spl_hit hp] at hx
        rcases List.mem_cons.mp hx with e | e
        · subst e; simp
        · have := ih [] x e
          simp at this ⊢
          omega
      · rw [spl_miss (by simpa using hp)] at hx
        have := ih _ x hx
        simp at this ⊢
        omega
  have := key _ _ _ hm
  simpa [tl, Str.length] using this
theorem split_none {z : Str} (h : 44 ∉ z.cps.toList) : ∀ y ∈ Txt.split z ",", y = z := by
  have e1 : tl (Str.ofString ",") = [44] := by decide +kernel
  intro y hy
  have hs := split_join (y := Str.ofString ",") e1 (by decide +kernel) (parts := [z]) (by simp) (fun p hp => by
    rw [List.mem_singleton.mp hp]
    exact h)
  have : Txt.join (Str.ofString ",") [z] = z := by
    rw [join_eq]
    refine DL.str_ext ?_
    show tl _ = tl _
    rw [tl_join]
    rfl
  rw [this] at hs
  rw [hs] at hy
  exact List.mem_singleton.mp hy
theorem split_two {a b : List Nat} (ha : 44 ∉ a) (hb : 44 ∉ b) : Txt.split ⟨(a ++ [44] ++ b).toArray⟩ "," = [⟨a.toArray⟩, ⟨b.toArray⟩] := by
  have e1 : tl (Str.ofString ",") = [44] := by decide +kernel
  have hs := split_join (y := Str.ofString ",") e1 (by decide +kernel) (parts := [⟨a.toArray⟩, ⟨b.toArray⟩]) (by simp) (fun p hp => by
    rcases List.mem_cons.mp hp with z | z
    · rw [z]; show 44 ∉ a.toArray.toList; simpa using ha
    · rw [List.mem_singleton.mp z]; show 44 ∉ b.toArray.toList; simpa using hb)
  have : Txt.join (Str.ofString ",") [⟨a.toArray⟩, ⟨b.toArray⟩] = ⟨(a ++ [44] ++ b).toArray⟩ := by
    rw [join_eq]
    refine DL.str_ext ?_
    show tl _ = _
    rw [tl_join, e1]
    show a.toArray.toList ++ ([44] ++ b.toArray.toList) = (a ++ [44] ++ b).toArray.toList
    simp
  rw [this] at hs
  exact hs
end Bs
namespace Bs
open PySem PySem.Spec PyProof.Rows L2 DL GX GxR
section
variable {P : Program} {w : World} {K : PySem.W.Frag} {mg : Str → Option Value} {base : Heap} {T : Tb} {cRow cPl cBell : Addr} {f c Pt : Addr} {fd : FuncData} {uS uM : Value}



theorem sc__law_dice : FnScope ["cell"] ["cell"] (defScope s__law_dice) := ⟨rfl, rfl, rfl, by decide +kernel, rfl, by decide +kernel, by decide +kernel⟩
theorem ok_dice (F : Fun K "_law_dice" "_law_dice" s__law_dice f fd) (B : Bi mg) : FnOk P w K mg base (L2.CX P w) 1 f fd ["cell"] (spR T K 1 R_dice) := by
  refine F.okX sc__law_dice spR_len (fun cdv A outer s H vs Q E hr h => ⟨_, (pss_cons (ps_if (pt_chain op_lt op_lt (pe_op op_sub pe_int pe_int) (pv 0) pe_int) (pss_one (ps_ret (pe_lst (pa_cons (pe_callB call_abs (by rfl) B.abs (by decide +kernel) (pa_cons (pv 0) pa_nil)) (pa_cons pe_int (pa_cons pe_int pa_nil)))))) pss_nil)
      (pss_one (ps_ret (pe_lst (pa_cons (pv 0) (pa_cons (pe_op op_add pe_int (pe_op op_mod (pe_callTy call_int1 (by rfl) B.int (by decide +kernel) (pa_cons (pv 0) pa_nil)) pe_int)) (pa_cons (pe_callTy call_int1 (by rfl) B.int (by decide +kernel) (pa_cons (pe_cmpR op_ge (pv 0) (pe_op op_pow pe_int pe_int) (nomark _)) pa_nil)) pa_nil))))))), ?_⟩)
  refine keeps h (by decide) ?_
  rintro ds r o hl ⟨c, rfl, rfl, rfl⟩
  refine sq_if (et_test (ev_chain (ev_op ev_int ev_int od_I0i) (ev_var rfl) od_I0b (fun _ => ev_int) (fun _ => od_I0b))) (fun hb => ?_) (fun hb => ?_)
  · have hc : -10 < c ∧ c < 10 := by simp at hb; omega
    refine st_retN' (en_lst (ea_cons (ev_cb (ea_cons (ev_var rfl) ea_nil) ca_abs) (ea_cons ev_int (ea_cons ev_int ea_nil))) (by simp)) fun p => ⟨p, rfl, ?_⟩
    unfold diceV
    rw [if_pos hc]
  · have hc : ¬ (-10 < c ∧ c < 10) := by simp at hb; omega
    refine sq_next (st_retN' (en_lst (ea_cons (ev_var rfl) (ea_cons (ev_op ev_int (ev_op (ev_cb (ea_cons (ev_var rfl) ea_nil) ca_intI) ev_int (od_I (by omega))) od_I0i) (ea_cons (ev_cb (ea_cons (ev_op (ev_var rfl) (ev_op ev_int ev_int (od_I ⟨by decide, by decide, by decide⟩)) od_I0b) ea_nil) ca_intB) ea_nil))) (by simp)) fun p => ⟨p, rfl, ?_⟩)
    unfold diceV
    rw [if_neg hc]
    have e : (10 : Int) ^ Int.toNat 18 = 10 ^ 18 := rfl
    simp only [e, decide_eq_true_eq]
theorem sc__law_roll : FnScope ["dice", "many", "found"] ["dice", "many"] (defScope s__law_roll) := ⟨rfl, rfl, rfl, by decide +kernel, rfl, by decide +kernel, by decide +kernel⟩
theorem ok_roll (F : Fun K "_law_roll" "_law_roll" s__law_roll f fd) (hm : mg "_law_roll" = some (.ref f)) (hk : PySem.W.keepIn K (.ref f) = true) (hb : Binds K fd ["dice", "many"] []) (B : Bi mg) : FnOk P w K mg base (L2.CX P w) 1 f fd ["dice", "many"] (spR T K 2 R_roll) := by
  have o__law_roll : FnOk P w K mg base (L2.CX P w) 0 f fd ["dice", "many"] (fun _ _ _ _ => False) := ⟨fun _ _ _ _ h => h.elim, fun _ _ _ _ _ _ _ _ _ _ _ _ _ h => h.elim⟩
  have m__law_roll := hm
  have k__law_roll := hk
  have b__law_roll := hb
  refine F.okX sc__law_roll spR_len (fun cdv A outer s H vs Q E hr h => ⟨_, (pss_cons (ps_if (PW.pt (pw_or (pt_cmpR op_eq (pe_ix (r := rIxL K) ix_list (pv 0) pe_int (fun _ _ => rfl)) pe_int (nomark _)) (pw_or1 (PW.pt (pw_and (pt_cmpR op_eq (pe_ix (r := rIxL K) ix_list (pv 0) pe_int (fun _ _ => rfl)) pe_int (nomark _)) (pw_and1 (pt_cmpR op_gt (pe_ix (r := rIxL K) ix_list (pv 0) pe_int (fun _ _ => rfl)) pe_int (nomark _)))))))) (pss_cons (ps_set (i := 2) sc__law_roll.nd rfl (by first | exact Or.inl rfl | exact Or.inr rfl) (pe_op op_mod (pe_callTy call_int1 (by rfl) B.int (by decide +kernel) (pa_cons (pe_ix (r := rIxL K) ix_list (pv 0) pe_int (fun _ _ => rfl)) pa_nil)) (pv 1)))
      (pss_cons (ps_asg (pe_op op_fdiv (pe_ix (r := rIxL K) ix_list (pv 0) pe_int (fun _ _ => rfl)) (pv 1)) (pg_sub (pv 0) pe_int set_list))
      (pss_one (ps_ret (pv 2))))) pss_nil)
      (pss_cons (ps_asg pe_int (pg_sub (pv 0) pe_int set_list))
      (pss_cons (ps_if (pt_cmpR op_gt (pv 1) pe_int (nomark _)) (pss_one (ps_ret (pe_op op_mod (pe_callTy call_int1 (by rfl) B.int (by decide +kernel) (pa_cons (pe_op op_add (pe_op op_mul (pe_call o__law_roll (hr.mono (by decide)) (by rfl) m__law_roll k__law_roll b__law_roll .nil (passes_call (takes_of (E := E) rfl rfl rfl rfl) (fun _ _ _ _ h => h)) (pa_cons (pv 0) (pa_cons (pe_op op_add (pe_op op_fdiv (pv 1) pe_int) pe_int) pa_nil))) pe_int) (pe_call o__law_roll (hr.mono (by decide)) (by rfl) m__law_roll k__law_roll b__law_roll .nil (passes_call (takes_of (E := E) rfl rfl rfl rfl) (fun _ _ _ _ h => h)) (pa_cons (pv 0) (pa_cons pe_int pa_nil)))) pa_nil)) (pv 1)))) pss_nil)
      (pss_cons (ps_asg (pe_op op_mod (pe_callTy call_int1 (by rfl) B.int (by decide +kernel) (pa_cons (pe_op op_add (pe_op op_add (pe_op op_mul (pe_ix (r := rIxL K) ix_list (pv 0) pe_int (fun _ _ => rfl)) pe_int) (pe_op op_mul (pe_ix (r := rIxL K) ix_list (pv 0) pe_int (fun _ _ => rfl)) pe_int)) pe_int) pa_nil)) pe_int) (pg_sub (pv 0) pe_int set_list))
      (pss_cons (ps_asg (pe_op op_add (pe_ix (r := rIxL K) ix_list (pv 0) pe_int (fun _ _ => rfl)) pe_int) (pg_sub (pv 0) pe_int set_list))
      (pss_one (ps_ret (pe_op op_mod (pe_callTy call_int1 (by rfl) B.int (by decide +kernel) (pa_cons (pe_op op_fdiv (pe_ix (r := rIxL K) ix_list (pv 0) pe_int (fun _ _ => rfl)) pe_int) pa_nil)) (pv 1))))))))), ?_⟩)
  refine keeps h (by decide) ?_
  rintro ds r o hl ⟨p, ⟨a, b, c⟩, m, h1, h2, rfl, rfl, rfl⟩
  have i0 : ∀ g, g[0]? = some (some (D.ref p)) → ∀ (x y z : Int), Ev T K (tOp (rIxL K) (tVar 0) (tC (.int 0))) g [rl p [.int x, .int y, .int z]] (.int x) [rl p [.int x, .int y, .int z]] := fun g hg x y z => ev_op (ev_var hg) ev_int (od_ixL (vl_o 0 rfl) rfl)
  have i1 : ∀ g, g[0]? = some (some (D.ref p)) → ∀ (x y z : Int), Ev T K (tOp (rIxL K) (tVar 0) (tC (.int 1))) g [rl p [.int x, .int y, .int z]] (.int y) [rl p [.int x, .int y, .int z]] := fun g hg x y z => ev_op (ev_var hg) ev_int (od_ixL (vl_o 0 rfl) rfl)
  have i2 : ∀ g, g[0]? = some (some (D.ref p)) → ∀ (x y z : Int), Ev T K (tOp (rIxL K) (tVar 0) (tC (.int 2))) g [rl p [.int x, .int y, .int z]] (.int z) [rl p [.int x, .int y, .int z]] := fun g hg x y z => ev_op (ev_var hg) ev_int (od_ixL (vl_o 0 rfl) rfl)
  refine sq_if (et_or (et_test (ev_op (i2 _ rfl _ _ _) ev_int od_eqI)) fun _ => et_and (et_test (ev_op (i2 _ rfl _ _ _) ev_int od_eqI)) fun _ => et_test (ev_op (i0 _ rfl _ _ _) ev_int od_I0b)) (fun hb => ?_) (fun hb => ?_)
  · have hc : rollC (a, b, c) := by
      unfold rollC
      simpa using hb
    refine sq_seq (sq_set (ev_op (ev_cb (ea_cons (i0 _ rfl _ _ _) ea_nil) ca_intI) (ev_var rfl) (od_I (by omega))) ?_)
    refine sq_seq (sq_setL 0 (ev_op (i0 _ rfl _ _ _) (ev_var rfl) (od_I ⟨by omega, by omega⟩)) (ev_var rfl) ev_int rfl rfl ?_)
    refine sq_ret (st_ret (ev_var rfl) ?_)
    unfold rollV rollD
    rw [if_pos hc, if_pos hc]
    exact ⟨rfl, rfl⟩
  · have hc : ¬ rollC (a, b, c) := by
      unfold rollC
      simpa using hb
    refine sq_next (sq_setL 0 ev_int (ev_var rfl) ev_int rfl rfl ?_)
    refine sq_if (et_test (ev_op (ev_var rfl) ev_int od_I0b)) (fun hb2 => ?_) (fun _ => ?_)
    · simp at hb2; omega
    refine sq_next (sq_setL 0 (ev_op (ev_cb (ea_cons (ev_op (ev_op (ev_op (i0 _ rfl _ _ _) ev_int (od_I (Or.inr ⟨by decide, by decide⟩))) (ev_op (i1 _ rfl _ _ _) ev_int (od_I (Or.inr ⟨by decide, by decide⟩))) od_I0i) ev_int od_I0i) ea_nil) ca_intI) ev_int (od_I (by decide))) (ev_var rfl) ev_int rfl rfl ?_)
    refine sq_setL 0 (ev_op (i1 _ rfl _ _ _) ev_int od_I0i) (ev_var rfl) ev_int rfl rfl ?_
    refine st_ret (ev_op (ev_cb (ea_cons (ev_op (i0 _ rfl _ _ _) ev_int (od_I ⟨by decide, by decide⟩)) ea_nil) ca_intI) (ev_var rfl) (od_I (by omega))) ?_
    unfold rollV rollD
    rw [if_neg hc, if_neg hc]
    exact ⟨rfl, rfl⟩
theorem sc__law_rounds : FnScope ["script", "most", "cells", "cell"] ["script", "most"] (defScope s__law_rounds) := ⟨rfl, rfl, rfl, by decide +kernel, rfl, by decide +kernel, by decide +kernel⟩
theorem ok_rounds2 (F : Fun K "_law_rounds" "_law_rounds" s__law_rounds f fd) (B : Bi mg) (c_dice : Cal P w K mg base T "_law_dice" 1 ["cell"] R_dice) : FnOk P w K mg base (L2.CX P w) 2 f fd ["script", "most"] (spR T K 2 R_rounds2) := by
  obtain ⟨f_r, fd_r, o__law_dice, m__law_dice, k__law_dice, b__law_dice⟩ := c_dice.ex
  refine F.okX sc__law_rounds spR_len (fun cdv A outer s H vs Q E hr h => ⟨_, (pss_cons (ps_set (i := 2) sc__law_rounds.nd rfl (by first | exact Or.inl rfl | exact Or.inr rfl) (pe_slice (r := rSlL K) sl_list (pv 0) po_none (po_some (pv 1))))
      (pss_cons (ps_if (pt_cmpR (r := rEqD K) (op_eqD hr.units) (pv 2) (pe_lst pa_nil) (nomark _)) (pss_one (ps_set (i := 2) sc__law_rounds.nd rfl (by first | exact Or.inl rfl | exact Or.inr rfl) (pe_lst (pa_cons pe_int pa_nil)))) pss_nil)
      (pss_one (ps_ret (pe_lc (own := [("cell", 3)]) rfl sc__law_rounds.nd (pi_list (pv 2)) (blkOk_by (N := ["script", "most", "cells", "cell"]) (by kernel_rfl)) (fun _ _ _ _ _ => (pg_name (i := 3) sc__law_rounds.nd rfl (by first | exact Or.inl rfl | exact Or.inr rfl))) (fun _ _ _ _ _ => pts_nil) (fun _ _ _ _ _ => (pe_call o__law_dice (hr.mono (by decide)) (by rfl) m__law_dice k__law_dice b__law_dice .nil passL (pa_cons (pv 3) pa_nil)))))))), ?_⟩)
  refine keeps h (by decide) ?_
  rintro ds r o hl ⟨ns, rfl, rfl, rfl⟩
  refine sq_new (en_slQ (ev_var rfl) eo_none (eo_some (ev_var rfl))) fun p => ?_
  rw [cut_upto (by omega), ← List.map_take]
  have fin : ∀ (c : Int), StD T K E (tRet (tLc (iList K (tVar 2)) (gName 3) tYes (tCall (spR T K 1 R_dice) [] L2.E0 (tCons (tVar 3) tNil)) [3])) [some (.lsq (ns.map D.int)), some (.int 1), some (.lst [.int c]), none] [] { nx := fun _ r' => ∃ p s, D.non = .lst [.ref p] ∧ r' = [rl p (diceD s)], rt := fun d r' => ∃ p s, d = .lst [.ref p] ∧ r' = [rl p (diceD s)], ex := fun _ _ => False } := by
    intro c
    refine st_retNP (en_lcP (ei_lst (ev_var rfl)) (fun i acc r' => (i = 0 ∧ acc = [] ∧ r' = []) ∨ (i = 1 ∧ ∃ p s, acc = [.ref p] ∧ r' = [rl p (diceD s)])) (Or.inl ⟨rfl, rfl, rfl⟩) (by simp) ?_ (fun ds r' h => h)) (fun ds r' hI => ?_)
    · rintro i d acc r' hd hI
      have hi : i = 0 := by
        have := (List.getElem?_eq_some_iff.mp hd).1
        simp at this
        exact this
      subst hi
      simp at hd
      subst hd
      rcases hI with ⟨_, rfl, rfl⟩ | ⟨z, _⟩
      · refine ⟨_, _, eg_name, by simp, EvP.mono (ep_callN (n := 1) (ea_cons (ev_var rfl) ea_nil) rfl ⟨c, rfl, rfl, rfl⟩ (fun _ _ z => z)) ?_⟩
        rintro d r ⟨r2, ⟨p, rfl, rfl⟩, rfl⟩
        exact Or.inr ⟨rfl, p, _, rfl, rfl⟩
      · cases z
    · rcases hI with ⟨z, _⟩ | ⟨_, p, s, rfl, rfl⟩
      · simp at z
      · exact ⟨p, s, rfl, rfl⟩
  cases ns with
  | nil =>
    refine sq_if (et_test (ev_op (ev_var rfl) (en_lst ea_nil (by simp)).ev (od_eqD (vd_il 0 rfl) (vd_f (d := .lst ([].map D.int))) (sh_il _) (sh_il [])))) (fun _ => ?_) (fun hb => ?_)
    · refine sq_new (en_lst (ea_cons ev_int ea_nil) (by simp)) fun q => ?_
      refine st_freeze 2 0 rfl rfl ?_
      exact st_dropA (r1 := [_]) (r2 := []) (fin 0)
    · rw [eq_il] at hb
      simp at hb
  | cons c ns =>
    refine sq_if (et_test (ev_op (ev_var rfl) (en_lst ea_nil (by simp)).ev (od_eqD (vd_il 0 rfl) (vd_f (d := .lst ([].map D.int))) (sh_il _) (sh_il [])))) (fun hb => ?_) (fun _ => ?_)
    · rw [eq_il] at hb
      simp at hb
    · refine sq_next (st_freeze 2 0 rfl rfl ?_)
      exact fin c

theorem told_of (F : Fun K "_law_told" "_law_told" s__law_told f fd) (gm : mg "_law_told" = some (.ref f)) (hb : Binds K fd ["what"] []) (e : mg "BellError" = some (.ref cBell)) : LmX.ToldF K mg "_law_told" f cBell "BellError" := by
  obtain ⟨oc, od, kV, doc, pm, an, cdv, ct, osl, rfl, lk, hcd⟩ := F.ex
  exact ⟨gm, F.kp, _, _, _, _, _, _, _, _, _, _, _, _, "what", "BellError", _, _, _, _, _, _, _, _, _, lk, hcd, hb, ⟨rfl, rfl, rfl, by decide +kernel, rfl, by decide +kernel, by decide +kernel⟩, Or.inl rfl, rfl, e, by decide, by decide, by decide⟩


def R_lchanged : Rel := fun ds r o => ∃ (l p : List Int), l.length ≤ 12 ∧ okP l.length p ∧ ds = [rowD l, rowD p] ∧ r = [] ∧ o = .one (.tux ((chg p l).map D.int)) []
def R_lchanges : Rel := fun ds r o => ∃ n : Nat, (3 ≤ n ∧ n ≤ 8) ∧ ds = [.int n] ∧ r = [] ∧ o = .one (.lst ((lawV n).map rowD)) []
theorem sc__law_changed : FnScope ["row", "places", "found", "k"] ["row", "places"] (defScope s__law_changed) := ⟨rfl, rfl, rfl, by decide +kernel, rfl, by decide +kernel, by decide +kernel⟩
theorem ok_lchanged (F : Fun K "_law_changed" "_law_changed" s__law_changed f fd) (B : Bi mg) : FnOk P w K mg base (L2.CX P w) 1 f fd ["row", "places"] (spR T K 2 R_lchanged) := by
  refine F.okX sc__law_changed spR_len (fun cdv A outer s H vs Q E hr h => ⟨_, (pss_cons (ps_par (i := 2) (j := 3) (by rfl) sc__law_changed.nd rfl rfl (by decide) rfl rfl (pa_cons (pe_lst pa_nil) (pa_cons pe_int pa_nil)) (by rfl))
      (pss_cons (ps_while (passes_of rfl) (pt_cmpR op_lt (pv 3) (pe_callB (r := rLenX K) call_len (by rfl) B.len PySem.boot_len (pa_cons (pv 0) pa_nil)) (nomark _)) (pss_one (ps_if (pt_cmpR (r := rIn K false) op_in_seq (pe_op op_add (pv 3) pe_int) (pv 1) (by rfl)) (pss_one (ps_par (i := 2) (j := 3) (by rfl) sc__law_changed.nd rfl rfl (by decide) rfl rfl (pa_cons (pe_op op_cat (pv 2) (pe_lst (pa_cons (pe_ix (r := rIxT K) ix_tup (pv 0) (pv 3) (fun _ _ => rfl)) pa_nil))) (pa_cons (pe_op op_add (pv 3) pe_int) pa_nil)) (by rfl))) (pss_one (ps_par (i := 2) (j := 3) (by rfl) sc__law_changed.nd rfl rfl (by decide) rfl rfl (pa_cons (pe_op op_cat (pv 2) (pe_lst (pa_cons (pe_ix (r := rIxT K) ix_tup (pv 0) (pe_op op_add (pv 3) pe_int) (fun _ _ => rfl)) (pa_cons (pe_ix (r := rIxT K) ix_tup (pv 0) (pv 3) (fun _ _ => rfl)) pa_nil)))) (pa_cons (pe_op op_add (pv 3) pe_int) pa_nil)) (by rfl))))))
      (pss_one (ps_ret (pe_tupX (by rfl) B.tuple (pv 2)))))), ?_⟩)
  refine keeps h (by decide) ?_
  rintro ds r o hl ⟨l, p, hn, hq, rfl, rfl, rfl⟩
  refine sq_par (x := .lst ([].map D.int)) (ea_cons (en_lst ea_nil (by simp)).ev (ea_cons ev_int ea_nil)) ?_
  refine st_seq (M := fun g r => ∃ x, g = [some (rowD l), some (rowD p), some (.lst ((chg p l).map D.int)), some x] ∧ r = []) (st_while (fun m g r => ∃ (k : Nat) (done : List Int), k ≤ l.length ∧ m = l.length - k ∧ al l.length p k ∧ done.length = k ∧ done ++ chgL p k (l.drop k) = chg p l ∧ g = [some (rowD l), some (rowD p), some (.lst (done.map D.int)), some (.int (k : Int))] ∧ r = []) l.length ?_ ?_) ?_
  · exact ⟨0, [], by omega, by omega, al_0 hq, rfl, by simp [chg], rfl, rfl⟩
  · rintro m g r ⟨k, done, hk, rfl, hal, hd, hch, rfl, rfl⟩
    refine ⟨_, _, et_test (ev_op (ev_var rfl) (ev_cb (ea_cons (ev_var rfl) ea_nil) (ca_len vs_t)) od_I0b), fun hb => ?_, fun hb => ?_⟩
    · have hk2 : k < l.length := by simp at hb; omega
      obtain ⟨a1, a2⟩ := al_step hal hk2
      have gk : ∀ j : Nat, j < l.length → atI (l.map D.int) (j : Int) = some (.int (l.getD j 0)) := fun j hj => atI_of (by omega) (by
        rw [List.getElem?_map, List.getD_eq_getElem?_getD]
        simp [hj])
      refine st_if (et_test (ev_op (ev_op (ev_var rfl) ev_int (od_I0i (h := fun i j => i + j))) (ev_var rfl) (od_inI vs_t))) (fun hm => ?_) (fun hm => ?_)
      · have hm2 : ((k : Int) + 1) ∈ p := by simpa using hm
        refine st_par (ea_cons (en_cat (ev_var rfl) (en_lst (ea_cons (ev_op (ev_var rfl) (ev_var rfl) (od_ixT (gk k hk2))) ea_nil) (by simp)).ev vl_f vl_f (by simp; omega)).ev (ea_cons (ev_op (ev_var rfl) ev_int (od_I0i (h := fun i j => i + j))) ea_nil)) ?_
        refine ⟨l.length - (k + 1), by omega, k + 1, done ++ [l.getD k 0], by omega, rfl, a1 hm2, by simp [hd], ?_, ?_, rfl⟩
        · rw [List.append_assoc, ← hch, chgL_in hk2 hm2]
          rfl
        · rw [List.map_append]
          rfl
      · have hm2 : ((k : Int) + 1) ∉ p := by simpa using hm
        obtain ⟨b1, b2⟩ := a2 hm2
        refine st_par (ea_cons (en_cat (ev_var rfl) (en_lst (ea_cons (ev_op (ev_var rfl) (ev_op (ev_var rfl) ev_int (od_I0i (h := fun i j => i + j))) (od_ixT (gk (k + 1) b1))) (ea_cons (ev_op (ev_var rfl) (ev_var rfl) (od_ixT (gk k hk2))) ea_nil)) (by simp)).ev vl_f vl_f (by simp; omega)).ev (ea_cons (ev_op (ev_var rfl) ev_int (od_I0i (h := fun i j => i + j))) ea_nil)) ?_
        refine ⟨l.length - (k + 2), by omega, k + 2, done ++ [l.getD (k + 1) 0, l.getD k 0], by omega, rfl, b2, by simp [hd], ?_, ?_, rfl⟩
        · rw [List.append_assoc, ← hch, chgL_out b1 hm2]
          rfl
        · rw [List.map_append]
          rfl
    · have hk2 : k = l.length := by simp at hb; omega
      refine ⟨.int (k : Int), ?_, rfl⟩
      subst hk2
      rw [List.drop_length] at hch
      rw [← hch]
      simp [chgL]
  · rintro g r ⟨x, rfl, rfl⟩
    exact st_retA (ev_tupX (ev_var rfl) vl_f) ⟨rfl, rfl⟩
theorem sc__law_changes : FnScope ["bells", "found", "step", "fresh", "row", "here", "one", "rows", "places", "k"] ["bells"] (defScope s__law_changes) := ⟨rfl, rfl, rfl, by decide +kernel, rfl, by decide +kernel, by decide +kernel⟩
theorem ok_lchanges (F : Fun K "_law_changes" "_law_changes" s__law_changes f fd) (B : Bi mg) : FnOk P w K mg base (L2.CX P w) 1 f fd ["bells"] (spR T K 1 R_lchanges) := by
  refine F.okX sc__law_changes spR_len (fun cdv A outer s H vs Q E hr h => ⟨_, (pss_cons (ps_set (i := 1) sc__law_changes.nd rfl (by first | exact Or.inl rfl | exact Or.inr rfl) (pe_lst (pa_cons (pe_tup pa_nil) pa_nil)))
      (pss_cons (ps_for (passes_of rfl) rfl (pi_range1 rfl B.range (pa_cons (pv 0) pa_nil)) (pg_name (i := 2) sc__law_changes.nd rfl (by first | exact Or.inl rfl | exact Or.inr rfl)) (pss_cons (ps_set (i := 3) sc__law_changes.nd rfl (by first | exact Or.inl rfl | exact Or.inr rfl) (pe_lst pa_nil))
      (pss_cons (ps_for (passes_of rfl) rfl (pi_list (pv 1)) (pg_name (i := 4) sc__law_changes.nd rfl (by first | exact Or.inl rfl | exact Or.inr rfl)) (pss_cons (ps_set (i := 5) sc__law_changes.nd rfl (by first | exact Or.inl rfl | exact Or.inr rfl) (pe_callB (r := rSum K) (cr_sum rfl) (by rfl) B.sum (by decide +kernel) (pa_cons (pe_lc (own := [("one", 6)]) rfl sc__law_changes.nd (pi_tup (pv 4)) (blkOk_by (N := ["bells", "found", "step", "fresh", "row", "here", "one", "rows", "places", "k"]) (by kernel_rfl)) (fun _ _ _ _ _ => (pg_name (i := 6) sc__law_changes.nd rfl (by first | exact Or.inl rfl | exact Or.inr rfl))) (fun _ _ _ _ _ => pts_nil) (fun _ _ _ _ _ => (pe_callB call_abs (by rfl) B.abs (by decide +kernel) (pa_cons (pv 6) pa_nil)))) pa_nil)))
      (pss_one (ps_set (i := 3) sc__law_changes.nd rfl (by first | exact Or.inl rfl | exact Or.inr rfl) (pe_op op_cat (pe_op op_cat (pe_op op_cat (pv 3) (pe_ifExp (pt_cmpR op_lt (pv 5) (pv 0) (nomark _)) (pe_lst (pa_cons (pe_op op_catA (pv 4) (pe_tup (pa_cons pe_int pa_nil))) pa_nil)) (pe_lst pa_nil))) (pe_ifExp (pt_cmpR op_lt (pe_op op_add (pv 5) pe_int) (pv 0) (nomark _)) (pe_lst (pa_cons (pe_op op_catA (pv 4) (pe_tup (pa_cons (pe_un un_neg pe_int) pa_nil))) pa_nil)) (pe_lst pa_nil))) (pe_ifExp (pt_cmpR op_eq (pv 5) (pv 0) (nomark _)) (pe_lst (pa_cons (pv 4) pa_nil)) (pe_lst pa_nil)))))))
      (pss_one (ps_set (i := 1) sc__law_changes.nd rfl (by first | exact Or.inl rfl | exact Or.inr rfl) (pv 3))))))
      (pss_cons (ps_set (i := 7) sc__law_changes.nd rfl (by first | exact Or.inl rfl | exact Or.inr rfl) (pe_lst pa_nil))
      (pss_cons (ps_for (passes_of rfl) rfl (pi_list (pv 1)) (pg_name (i := 4) sc__law_changes.nd rfl (by first | exact Or.inl rfl | exact Or.inr rfl)) (pss_cons (ps_set (i := 8) sc__law_changes.nd rfl (by first | exact Or.inl rfl | exact Or.inr rfl) (pe_tupX (by rfl) B.tuple (pe_lc (own := [("k", 9)]) rfl sc__law_changes.nd (pi_range1 rfl B.range (pa_cons (pe_callB (r := rLenX K) call_len (by rfl) B.len PySem.boot_len (pa_cons (pv 4) pa_nil)) pa_nil)) (blkOk_by (N := ["bells", "found", "step", "fresh", "row", "here", "one", "rows", "places", "k"]) (by kernel_rfl)) (fun _ _ _ _ _ => (pg_name (i := 9) sc__law_changes.nd rfl (by first | exact Or.inl rfl | exact Or.inr rfl))) (fun _ _ _ _ _ => (pts_one (pt_cmpR op_eq (pe_ix (r := rIxT K) ix_tup (pv 4) (pv 9) (fun _ _ => rfl)) pe_int (nomark _)))) (fun _ _ _ _ _ => (pe_op op_add pe_int (pe_callB (r := rSum K) (cr_sum rfl) (by rfl) B.sum (by decide +kernel) (pa_cons (pe_lc (own := [("one", 6)]) rfl sc__law_changes.nd (show PI _ _ _ (iTup K _) from pi_tup (pe_slice (r := rSlA K) sl_tupA (pv 4) po_none (po_some (pv 9)))) (blkOk_by (N := ["bells", "found", "step", "fresh", "row", "here", "one", "rows", "places", "k"]) (by kernel_rfl)) (fun _ _ _ _ _ => (pg_name (i := 6) sc__law_changes.nd rfl (by first | exact Or.inl rfl | exact Or.inr rfl))) (fun _ _ _ _ _ => pts_nil) (fun _ _ _ _ _ => (pe_callB call_abs (by rfl) B.abs (by decide +kernel) (pa_cons (pv 6) pa_nil)))) pa_nil)))))))
      (pss_one (ps_set (i := 7) sc__law_changes.nd rfl (by first | exact Or.inl rfl | exact Or.inr rfl) (pe_op op_cat (pv 7) (pe_op op_rep (pe_lst (pa_cons (pv 8) pa_nil)) (pe_callTy call_int1 (by rfl) B.int (by decide +kernel) (pa_cons (pe_cmpR op_lt (pe_callB (r := rLenX K) call_len (by rfl) B.len PySem.boot_len (pa_cons (pv 8) pa_nil)) (pv 0) (nomark _)) pa_nil))))))))
      (pss_one (ps_ret (pe_callB (r := rSortedD K) (cr_sortedD (TkO.units70 hr)) (by rfl) B.sorted (by decide +kernel) (pa_cons (pv 7) pa_nil)))))))), ?_⟩)
  refine keeps h (by decide) ?_
  rintro ds r o hl ⟨n, hn, rfl, rfl, rfl⟩
  have fine := lc_fine n hn.1 hn.2
  have sumE : ∀ (ti : TI) (g : G) (row : List Int), row.length ≤ 20 → 6 < g.length → EvI T K ti g [] (row.map D.int) [] → Ev T K (tCB (rSum K) (tCons (tLc ti (gName 6) tYes (tCB (fun xs H Q => ∃ i, xs = [V.int i] ∧ Q (.int (if i < 0 then -i else i)) H) (tCons (tVar 6) tNil)) [6]) tNil)) g [] (.int (hereV row)) [] := fun ti g row h20 h6 hi => by
    refine ev_cb (ea_cons (EvN.ev (en_lcMT (enc2 := D.int) (fe := absI) hi (by omega) fun b hb2 => ⟨_, _, eg_name, by simp, ?_⟩)) ea_nil) (ca_sum vl_f)
    exact ev_cb (ea_cons (ev_var (List.getElem?_set_self (by simpa [wipeG] using h6))) ea_nil) ca_abs
  refine sq_set (d := .lst ((lcIt n 0).map rowD)) (en_lst (ea_cons (ev_tup ea_nil (by simp)) ea_nil) (by simp)).ev ?_
  refine st_seq (M := fun g r => ∃ a b c d e, g = [some (.int n), some (.lst ((lcIt n n).map rowD)), a, b, c, d, e, none, none, none] ∧ r = [])
    (st_for (ei_rg1 (ea_cons (ev_var rfl) ea_nil) (by omega)) (fun s g r => s ≤ n ∧ ∃ a b c d e, g = [some (.int n), some (.lst ((lcIt n s).map rowD)), a, b, c, d, e, none, none, none] ∧ r = []) ⟨by omega, _, _, _, _, _, rfl, rfl⟩ ?_ ?_) ?_
  · rintro s d g r hd ⟨_, xa, xb, xc, xd, xe, rfl, rfl⟩
    have hs : s < n := by
      have := (List.getElem?_eq_some_iff.mp hd).1
      simp [rgD] at this
      omega
    refine ⟨_, _, eg_name, ?_⟩
    obtain ⟨hf1, hf2⟩ := fine s (by omega)
    refine sq_set (d := .lst ([].map rowD)) (en_lst ea_nil (by simp)).ev ?_
    refine st_seq (M := fun g r => ∃ a c d e, g = [some (.int n), some (.lst ((lcIt n s).map rowD)), a, some (.lst ((lcIt n (s + 1)).map rowD)), c, d, e, none, none, none] ∧ r = [])
      (st_forT (ei_L (ev_var rfl)) (fun i g r => ∃ a c d e, g = [some (.int n), some (.lst ((lcIt n s).map rowD)), a, some (.lst ((((lcIt n s).take i).flatMap (lcRow n)).map rowD)), c, d, e, none, none, none] ∧ r = []) ⟨_, _, _, _, rfl, rfl⟩ ?_ ?_) ?_
    · rintro i row g r hi hm ⟨ya, yc, yd, ye, rfl, rfl⟩
      refine ⟨_, _, eg_name, ?_⟩
      have h20 := hf2 row hm
      have hil := (List.getElem?_eq_some_iff.mp hi).1
      have hlen : (((lcIt n s).take i).flatMap (lcRow n)).length ≤ i * 3 := by
        have : ∀ l : List (List Int), (l.flatMap (lcRow n)).length ≤ l.length * 3 := by
          intro l
          induction l with
          | nil => simp
          | cons a l ih =>
            rw [List.flatMap_cons, List.length_append, List.length_cons, Nat.succ_mul]
            have : (lcRow n a).length ≤ 3 := by
              unfold lcRow
              split <;> split <;> split <;> simp
            omega
        refine Nat.le_trans (this _) (Nat.mul_le_mul_right 3 ?_)
        rw [List.length_take]
        omega
      generalize hacc : ((lcIt n s).take i).flatMap (lcRow n) = acc at hlen ⊢
      refine sq_set (sumE _ _ row h20 (by simp) (ei_T (ev_var rfl))) ?_
      have br : ∀ (g : G) (tt : TT) (b : Bool) (x : List Int) (ta : TE), EvT T K tt g [] b [] → Ev T K ta g [] (rowD x) [] → Ev T K (tIf tt (tLst (tCons ta tNil)) (tLst tNil)) g [] (.lst ((if b = true then [x] else []).map rowD)) [] := fun g tt b x ta h1 h2 => by
        refine ev_if h1 (fun hb => ?_) (fun hb => ?_)
        · rw [if_pos hb]
          exact (en_lst (ea_cons h2 ea_nil) (by simp)).ev
        · rw [if_neg (by rw [hb]; decide)]
          exact (en_lst ea_nil (by simp)).ev
      have l1 : ∀ (b : Bool) (x : List Int), ((if b = true then [x] else []).map rowD).length ≤ 1 := fun b x => by cases b <;> simp
      have cat1 : ∀ (v : Int) (g : G) (ta : TE), g[4]? = some (some (rowD row)) → Ev T K ta g [] (.int v) [] → Ev T K (tOp (rCatA K) (tVar 4) (tTup (tCons ta tNil))) g [] (rowD (row ++ [v])) [] := fun v g ta h4 h => by
        have := ev_op (ev_var h4) (ev_tup (ea_cons h ea_nil) (by simp)) (od_catT (T := T) (K := K) (g := g) (r := []) (ds := row.map D.int) (es := [D.int v]) (by simp; omega))
        exact this.of_eq (by simp [rowD])
      refine st_set (d := .lst ((((lcIt n s).take (i + 1)).flatMap (lcRow n)).map rowD)) (Ev.of_eq (EvN.ev (en_cat (EvN.ev (en_cat (EvN.ev (en_cat (ev_var rfl)
        (br _ _ _ _ _ (et_test (ev_op (ev_var rfl) (ev_var rfl) od_I0b)) (cat1 1 _ _ rfl ev_int)) vl_f vl_f ?_))
        (br _ _ _ _ _ (et_test (ev_op (ev_op (ev_var rfl) ev_int od_I0i) (ev_var rfl) od_I0b)) (cat1 (-2) _ _ rfl (ev_neg ev_int))) vl_f vl_f ?_))
        (br _ _ _ _ _ (et_test (ev_op (ev_var rfl) (ev_var rfl) od_eqI)) (ev_var rfl)) vl_f vl_f ?_)) ?_) ⟨_, _, _, _, rfl, rfl⟩
      · have := l1 (decide (hereV row < n)) (row ++ [1])
        rw [List.length_map]
        omega
      · have := l1 (decide (hereV row < n)) (row ++ [1])
        have := l1 (decide (hereV row + 1 < n)) (row ++ [-2])
        rw [List.length_append, List.length_map]
        omega
      · have := l1 (decide (hereV row < n)) (row ++ [1])
        have := l1 (decide (hereV row + 1 < n)) (row ++ [-2])
        have := l1 (decide (hereV row = n)) row
        rw [List.length_append, List.length_append, List.length_map]
        omega
      · rw [take_snoc hi, List.flatMap_append, hacc, List.flatMap_cons, List.flatMap_nil, List.append_nil]
        unfold lcRow
        simp only [decide_eq_true_eq, List.map_append, List.append_assoc]
    · rintro g r ⟨ya, yc, yd, ye, rfl, rfl⟩
      rw [List.take_length]
      exact ⟨_, _, _, _, rfl, rfl⟩
    · rintro g r ⟨ya, yc, yd, ye, rfl, rfl⟩
      exact st_set (ev_var rfl) ⟨by omega, _, _, _, _, _, rfl, rfl⟩
  · rintro g r ⟨_, xa, xb, xc, xd, xe, rfl, rfl⟩
    have : (rgD 0 (n : Int).toNat).length = n := by simp [rgD]
    rw [this]
    exact ⟨_, _, _, _, _, rfl, rfl⟩
  · rintro g r ⟨xa, xb, xc, xd, xe, rfl, rfl⟩
    obtain ⟨hf1, hf2⟩ := fine n (by omega)
    generalize hF : lcIt n n = Fd at hf1 hf2 ⊢
    refine sq_set (d := .lst ([].map rowD)) (en_lst ea_nil (by simp)).ev ?_
    refine st_seq (M := fun g r => ∃ a, g[7]? = some (some (.lst ((lcRows n Fd).map rowD))) ∧ g = a ∧ r = [])
      (st_forT (ei_L (ev_var rfl)) (fun i g r => ∃ a b c d e h k, g = [some (.int n), some (.lst (Fd.map rowD)), a, b, c, d, e, some (.lst ((lcRows n (Fd.take i)).map rowD)), h, k] ∧ r = []) ⟨_, _, _, _, _, _, _, rfl, rfl⟩ ?_ ?_) ?_
    · rintro i row g r hi hm ⟨ya, yb, yc, yd, ye, yh, yk, rfl, rfl⟩
      refine ⟨_, _, eg_name, ?_⟩
      have h20 := hf2 row hm
      have hil := (List.getElem?_eq_some_iff.mp hi).1
      have hlen : (lcRows n (Fd.take i)).length ≤ i := by
        have : ∀ l : List (List Int), (lcRows n l).length ≤ l.length := by
          intro l
          induction l with
          | nil => simp [lcRows]
          | cons a l ih =>
            unfold lcRows at ih ⊢
            rw [List.flatMap_cons, List.length_append, List.length_cons]
            have : (if ((lcPl a).length : Int) < n then [lcPl a] else []).length ≤ 1 := by split <;> simp
            omega
        refine Nat.le_trans (this _) ?_
        rw [List.length_take]
        omega
      have eP : ∀ g : G, g[4]? = some (some (rowD row)) → g.length = 10 → Ev T K (tThen (tLc (iRng1 (tCons (tCB (rLenX K) (tCons (tVar 4) tNil)) tNil)) (gName 9) (tTest (tOp rEq (tOp (rIxT K) (tVar 4) (tVar 9)) (tC (.int 1)))) (tOp (rI0 fun i j => .int (i + j)) (tC (.int 1)) (tCB (rSum K) (tCons (tLc (iTup K (tSl (rSlA K) (tVar 4) tNoPart (tPart (tVar 9)))) (gName 6) tYes (tCB (fun xs H Q => ∃ i, xs = [V.int i] ∧ Q (.int (if i < 0 then -i else i)) H) (tCons (tVar 6) tNil)) [6]) tNil))) [9]) (kTupX K)) g [] (rowD (lcPl row)) [] := fun g h4 hg => by
        refine ev_tux (ev_tupX (EvN.ev (en_lcT (enc := fun k : Nat => D.int (k : Int)) (as := List.range row.length) (enc2 := D.int) (b := fun k => decide (row.getD k 0 = 1)) (fe := fun k => 1 + hereV (row.take k)) ?_ (by simp; omega) fun k hk => ?_)) vl_f)
        · have q := ei_rg1 (T := T) (K := K) (g := g) (r := []) (ea_cons (ev_cb (ea_cons (ev_var h4) ea_nil) (ca_len vs_t)) ea_nil) (by simp; omega)
          have e : rgD 0 (((row.map D.int).length : Int)).toNat = (List.range row.length).map fun k : Nat => D.int (k : Int) := by simp [rgD]
          rw [e] at q
          exact q
        · have hk := List.mem_range.mp hk
          have w4 : (wipeG g [9])[4]? = some (some (rowD row)) := by simp [wipeG, h4]
          have g4 : ((wipeG g [9]).set 9 (some (.int (k : Int))))[4]? = some (some (rowD row)) := by rw [List.getElem?_set_ne (by decide)]; exact w4
          have g9 : ((wipeG g [9]).set 9 (some (.int (k : Int))))[9]? = some (some (.int (k : Int))) := List.getElem?_set_self (by simp [wipeG]; omega)
          refine ⟨_, _, eg_name, by simp, et_test (ev_op (ev_op (ev_var g4) (ev_var g9) (od_ixRow (by omega) (by omega))) ev_int od_eqI), fun _ => ?_⟩
          refine ev_op ev_int (sumE _ _ (row.take k) (by rw [List.length_take]; omega) (by simp [wipeG]; omega) ?_) od_I0i
          have q := ei_tup (T := T) (K := K) (g := (wipeG g [9]).set 9 (some (.int (k : Int)))) (r := []) (ev_slT (ev_var g4) eo_none (eo_some (ev_var g9)))
          rw [cut_upto (by omega), ← List.map_take] at q
          exact q
      refine sq_set (eP _ rfl rfl) ?_
      refine st_set (d := .lst ((lcRows n (Fd.take (i + 1))).map rowD)) (Ev.of_eq (EvN.ev (en_cat (ev_var rfl) (EvN.ev (en_rep (en_lst (ea_cons (ev_var rfl) ea_nil) (by simp)).ev (ev_cb (ea_cons (ev_op (ev_cb (ea_cons (ev_var rfl) ea_nil) (ca_len vs_t)) (ev_var rfl) od_I0b) ea_nil) ca_intB) vl_f ?_ ?_)) vl_f vl_f ?_)) ?_) ⟨_, _, _, _, _, _, _, rfl, rfl⟩
      · split <;> omega
      · simp only [List.length_cons, List.length_nil]; split <;> simp
      · rw [List.length_map]
        split <;> simp <;> omega
      · rw [take_snoc hi, List.length_map]
        unfold lcRows
        rw [List.flatMap_append, List.flatMap_cons, List.flatMap_nil, List.append_nil, List.map_append]
        by_cases hlt : ((lcPl row).length : Int) < n
        · simp [hlt]
        · simp [hlt]
    · rintro g r ⟨ya, yb, yc, yd, ye, yh, yk, rfl, rfl⟩
      rw [List.take_length]
      exact ⟨_, rfl, rfl, rfl⟩
    · rintro g r ⟨_, h7, rfl, rfl⟩
      refine st_retNP (R := fun ds r => ds = (srtR (lcRows n Fd)).map rowD ∧ r = []) (fun rf Hs H σ s Q q => en_sortedRows (ls := lcRows n Fd) (ea_cons (ev_var h7) ea_nil) (Or.inr vl_f) rf Hs H σ s Q fun p Hs1 H1 e s1 => q p _ _ Hs1 H1 ⟨rfl, rfl⟩ e s1) ?_
      rintro ds r ⟨rfl, rfl⟩
      refine ⟨?_, rfl⟩
      show D.lst _ = D.lst ((srtR (lcRows n (lcIt n n))).map rowD)
      rw [hF]
end
end Bs
/-! generator expressions with a condition -/
namespace GY
open PySem PySem.Spec PyProof.Rows L2 GxR
section
/-- the condition -/
def GT (X : Cx) (P : Addr) (xs : List Str) (sc : Scope) (e : Expr) (el : ER) : Prop := ∀ (σ : L2.St) (H : Hp) (vs : List V) (b : Bool), el σ H vs (.bl b) → ∀ (cenv : Env) (A' : Around) (E' : Value → Shared → Prop) (s : Shared), A'.handled = none → cenv.scope = sc → GSt X P σ H cenv xs vs s →
  ∀ Q : Bool → Shared → Prop, (∀ s', Keeps s s' → Q b s') → wpAny (model X.prog X.w) A' (isTrue e cenv (eval e cenv)) Q E' s
variable {X : Cx} {pins : List (Addr × Obj)} {σ : L2.St} {H : Hp} {s : Shared}
theorem gen_if {c P : Addr} {elt cnd iter : Expr} {x : Str} {px gpos : Pos} {scope : Scope} {el elc : ER} {te : TE} {iw : V → Hp → List V → Prop} {k : Nat} {Q' : Value → Shared → Prop} {R : List V → Hp → (Nat → Bool) → (Nat → V) → Prop}
    (hr : Room k X.A) (TB : TabB X.base X.mg c P) (hcode : X.env.code = .ref c) (S : GenS X.env scope x) (hi : PE X iter te) (hiw : GX.IW X iw) (hel : GP X P [x] scope elt el) (hec : GT X P [x] scope cnd elc)
    (hs : ∀ v, genFold iter X.env v = pure v) (hvis : ∀ y, scope.names.lookup y = some .free → X.env.scope.names.lookup y = some .cell ∨ X.env.scope.names.lookup y = some .free) (I : Inv X pins σ H s)
    (h : te σ H fun v H1 => ∃ xs, iw v H1 xs ∧ TabG H1 P ∧ ∃ (b : Nat → Bool) (f : Nat → V), (∀ (i : Nat) x, xs[i]? = some x → elc σ H1 [x] (.bl (b i)) ∧ (b i = true → el σ H1 [x] (f i))) ∧ R xs H1 b f)
    (hQ : ∀ xs H1 b f g s5, R xs H1 b f → GX.ReadyV X pins σ H1 P (passing b xs.length 0).length (fun j => f ((passing b xs.length 0).getD j 0)) g s5 → Q' (.ref g) s5) :
    wpAny (model X.prog X.w) X.A (eval (.GeneratorExp elt [⟨.Name x px, iter, [cnd], 0⟩] scope gpos) X.env) Q' X.xe s := by
  refine wpAny_GeneratorExp_walksQ hr.hd S.co (closure_ok S.free) S.cell S.dot S.loc S.kind (by have := hr.dp; omega) ?_ hs
  refine thn (hi.run pins s σ H _ I h) fun xv s1 ⟨v, H1, I1, r1, q1⟩ => ?_
  obtain ⟨xs, hxs, ⟨ps, hP, ht⟩, bz, f, hf, q1⟩ := q1
  refine hiw pins σ H1 s1 v xv xs I1 r1 hxs _ _ fun o fp St Pf W hPf hst hfp => ?_
  have hPs : s1.heap.get? P = some { cls := .none, data := .fields ps } := I1.hok P _ hP
  have hPlt : P < s1.heap.objs.size := Heap.lt_size hPs
  have hP2 : (s1.heap.push o).get? P = some { cls := .none, data := .fields ps } := Heap.get?_push_of_some _ hPs
  have cd : PySem.W.CodeHd (s1.heap.push o) c P := TB.code.keeps fun b u e => Heap.get?_push_of_some _ (I1.bk b u e)
  have lim2 : (s1.heap.push o).NoLimit := I1.nolimit.push o
  have cont : ∀ (code : Value) (h3 : Heap) (tk : Nat) (ps' : Array Value), Heap.ExtBut P (s1.heap.push o) h3 → (s1.heap.push o).objs.size ≤ h3.objs.size → h3.get? P = some { cls := .none, data := .fields ps' } → (∃ more, ps' = ps ++ more) → TriplesOk ps'.toList →
      wpAny (model X.prog X.w) X.A (builtinsFor X.env.globals X.env.builtins) (fun bi s₄ =>
        ∃ Ia fp wr n₀ Pf St₀ pz F, Value.ref s1.heap.objs.size = .ref Ia ∧ (∀ A' : Around, A'.handled = none → Walks X.prog X.w A' Ia fp wr n₀ Pf St₀) ∧ St₀ 0 s₄.heap ∧ (∀ b ∈ fp, b < s₄.heap.objs.size) ∧ s₄.heap.NoLimit ∧ cStatics ∉ wr ∧
          (∀ href : Heap, (∀ b o, s₄.heap.get? b = some o → href.get? b = some o) →
            QuietGen X.prog X.w (genEnv scope (cloFrom X.env.cells scope.names []) s₄.heap.objs.size code bi X.env) x [cnd] elt (List.range s₄.heap.objs.size) wr Pf pz F href) ∧
          (∀ a h₅ tk gs, gs.bare = true → s₄.heap.objs.size < a → h₅.objs.size = a + 1 → (∀ b o, s₄.heap.get? b = some o → h₅.get? b = some o) →
            WalksS X.prog X.w X.A.in4 a (a :: s₄.heap.objs.size :: List.range s₄.heap.objs.size) (s₄.heap.objs.size :: wr) (GenOnlyQ s₄.gens.size) (passing pz n₀ 0).length
              (fun j y => ∃ i, (passing pz n₀ 0)[j]? = some i ∧ F i y) (GenAt X.prog X.w X.A.in4 a s₄.gens.size s₄.heap.objs.size (List.range s₄.heap.objs.size) wr pz n₀ F) →
            GenAt X.prog X.w X.A.in4 a s₄.gens.size s₄.heap.objs.size (List.range s₄.heap.objs.size) wr pz n₀ F 0 { s₄ with gens := s₄.gens.push gs, toks := tk, heap := h₅ } →
            Q' (.ref a) { s₄ with gens := s₄.gens.push gs, toks := tk, heap := h₅ })) X.xe { s1 with heap := h3, toks := tk } := by
    intro code h3 tk ps' hx hsz hP3 hmore ht3
    obtain ⟨bm, ob, e1, e2, e3, e4, e5, e6, e7, e8⟩ := TB.bm
    have hcP : cStatics ≠ P := fun e => by
      obtain ⟨_, hns, _⟩ := I1.nolimit
      obtain ⟨o', es, ep, ho, hd, _⟩ := hns
      rw [e, hPs] at ho
      cases ho
      cases hd
    have hcl : cStatics < s1.heap.objs.size := let ⟨_, hns, _⟩ := I1.nolimit; hns.lt
    have sz2 : (s1.heap.push o).objs.size = s1.heap.objs.size + 1 := Heap.size_push ..
    have hs3 : s1.heap.objs.size < h3.objs.size := by rw [sz2] at hsz; exact hsz
    have keep3 : ∀ b u, b ≠ P → s1.heap.get? b = some u → h3.get? b = some u := fun b u hb e => hx b u hb (Heap.get?_push_of_some _ e)
    refine wpAny_builtinsFor (m := X.mg) (by rw [I1.ok.glob]; exact ((I1.mod.glob.keeps I1.bk).push o).extBut hx TB.gP) e1 e2 (keep3 _ _ e4 (I1.bk _ _ e5)) e6 e7 e8 ?_
    refine ⟨s1.heap.objs.size, fp, [s1.heap.objs.size], xs.length, Pf, St, bz, (fun i y => i < xs.length ∧ RelV (f i) y), rfl, W, ?_, ?_, lim2.extBut hx hcP, ?_, ?_, ?_⟩
    · refine (W X.A hr.hd).frame _ _ _ hst fun b hb u e => hx b u (fun z => ?_) e
      rcases hfp b hb with z2 | ⟨ob', h1, h2⟩
      · exact Nat.ne_of_lt hPlt (z.symm.trans z2)
      · rw [z, hPs] at h1
        cases h1
        exact h2 _ rfl
    · intro b hb
      show b < h3.objs.size
      rcases hfp b hb with z | ⟨ob', h1, h2⟩
      · rw [z]
        exact hs3
      · exact Nat.lt_trans (Heap.lt_size h1) hs3
    · intro z
      rcases List.mem_cons.mp z with z | z
      · exact Nat.ne_of_lt hcl z
      · cases z
    · intro href hhref
      have key : ∀ (i : Nat) (v : Value) (s₂ : Shared) (m₂ : Str → Option Value), Pf i v → s₂.heap.Ns (genEnv scope (cloFrom X.env.cells scope.names []) h3.objs.size code builtinsNs X.env).locals m₂ → m₂ x = some v → (∀ b, b ∈ List.range h3.objs.size → b ∉ [s1.heap.objs.size] → ∀ o, href.get? b = some o → s₂.heap.get? b = some o) →
          ∃ xi, xs[i]? = some xi ∧ i < xs.length ∧ GSt X P σ H1 (genEnv scope (cloFrom X.env.cells scope.names []) h3.objs.size code builtinsNs X.env) [x] [xi] s₂ := fun i v s₂ m₂ hPv hn hm hk => by
        obtain ⟨xi, h1, h2⟩ := hPf i v hPv
        have hlt : i < xs.length := (List.getElem?_eq_some_iff.mp h1).1
        have nw : ∀ b u, s1.heap.get? b = some u → b ∉ [s1.heap.objs.size] := fun b u e hb => by
          have hl := Heap.lt_size e
          have z : b = s1.heap.objs.size := by simpa using hb
          rw [z] at hl
          exact Nat.lt_irrefl _ hl
        have up : ∀ b u, b ≠ P → s1.heap.get? b = some u → s₂.heap.get? b = some u := fun b u hb e => by
          have l1 : b < h3.objs.size := by
            exact Nat.lt_trans (Heap.lt_size e) hs3
          exact hk b (List.mem_range.mpr l1) (nw b u e) u (hhref b u (keep3 b u hb e))
        have nPb : ∀ b u, X.base.get? b = some u → b ≠ P := fun b u e z => by
          have q := (I1.bs b u e).2
          rw [z, hP] at q
          cases q
        refine ⟨xi, h1, hlt, ?_⟩
        refine ⟨I1.ok, S.kind, I1.ok.glob, fun y hy => ?_, ⟨m₂, hn, fun j y v' e1 e2 => ?_⟩, fun j y u e1 e2 e3 => ?_, ⟨ps, hP⟩, ⟨pins, s1, I1, up⟩⟩
        · rcases List.mem_cons.mp hy with z | hy
          · rw [z]; exact S.loc
          cases hy
        · match j with
          | 0 => cases e1; cases e2; exact ⟨v, hm, h2⟩
          | j + 1 => cases e1
        · obtain ⟨m, hm1, hl⟩ := I1.loc
          have e3' : scope.names.lookup y = some .free := e3
          have hv := hvis y e3'
          obtain ⟨w, rw', lk⟩ := hl j y u e1 e2 (by rcases hv with z | z; exact Or.inr (Or.inl z); exact Or.inr (Or.inr z))
          obtain ⟨cc, hc1, oc, hc2, hc3⟩ : ∃ cc, X.env.cells.lookup y = some cc ∧ s1.heap.IsCell cc (some w) := by
            rcases lk with ⟨z, _⟩ | ⟨_, z⟩
            · have z' : X.env.scope.names.lookup y = some .local := z
              rcases hv with q | q <;> rw [q] at z' <;> cases z'
            · exact z
          have ncP : cc ≠ P := fun z => by
            rw [z, hPs] at hc2
            cases hc2
            cases hc3
          obtain ⟨c2, hc4⟩ := mem_lookup (cloFrom_has (cells := X.env.cells) (acc := []) (PySem.mem_of_lookup e3'))
          refine ⟨c2, w, hc4, ?_, rw'⟩
          have hc5 := PySem.mem_of_lookup hc4
          rcases cloFrom_mem hc5 with z | ⟨_, z⟩
          · cases z
          · have : c2 = cc := by rw [z, hc1]; rfl
            rw [this]
            exact ⟨oc, up cc oc ncP hc2, hc3⟩
      refine ⟨fun A' E' i v s₂ m₂ hA hPv hn hm hk => ?_, fun A' E' i v s₂ m₂ hA hPv hp hn hm hk => ?_⟩
      · obtain ⟨xi, h1, hlt, gst⟩ := key i v s₂ m₂ hPv hn hm hk
        exact wpAny_tests_one (hec σ H1 [xi] (bz i) (hf i xi h1).1 _ A' E' s₂ hA rfl gst _ fun s' ks => ⟨rfl, ks⟩)
      · obtain ⟨xi, h1, hlt, gst⟩ := key i v s₂ m₂ hPv hn hm hk
        exact hel σ H1 [xi] (f i) ((hf i xi h1).2 hp) _ A' E' s₂ hA rfl gst _ fun u s' ru ku => ⟨⟨hlt, ru⟩, ku⟩
    · intro g h5 tk5 gs hgb hag hsz5 hk5 W5 hat
      refine hQ xs H1 bz f g _ q1 ⟨_, _, _, _, _, W5, hat, ?_, List.mem_cons_self, fun i s9 h9 => ?_, ?_, fun s' hm => ?_⟩
      · intro b hb
        show b < h5.objs.size
        have e5 : h5.objs.size = g + 1 := hsz5
        have h8 : h3.objs.size < g := hag
        rw [e5]
        rcases List.mem_cons.mp hb with z | z
        · rw [z]
          exact Nat.lt_succ_self g
        · rcases List.mem_cons.mp z with z | z
          · rw [z]
            exact Nat.lt_succ_of_lt h8
          · have z2 := List.mem_range.mp z
            have h7 : b < h3.objs.size := z2
            exact Nat.lt_succ_of_lt (Nat.lt_trans h7 h8)
      · obtain ⟨hg9, _⟩ := h9
        exact hg9.typeIs
      · intro j y hy
        obtain ⟨i, hij, h1, h2⟩ := hy
        refine ⟨(List.getElem?_eq_some_iff.mp hij).1, ?_⟩
        show RelV (f ((passing bz xs.length 0).getD j 0)) y
        rw [List.getD_eq_getElem?_getD, hij]
        exact h2
      · obtain ⟨more, em⟩ := hmore
        have nwr : ∀ b u, s1.heap.get? b = some u → b ∉ h3.objs.size :: [s1.heap.objs.size] := fun b u e hb => by
          have hl := Heap.lt_size e
          rcases List.mem_cons.mp hb with z | z
          · rw [z] at hl
            have h9 : (h3.objs.size : Nat) < s1.heap.objs.size := hl
            omega
          · rcases List.mem_cons.mp z with z | z
            · rw [z] at hl
              exact Nat.lt_irrefl _ hl
            · cases z
        have J := inv_tab (more := more) (h' := s'.heap) (g' := s'.gens) (d' := s'.drawn) (t' := s'.toks) I1 hP (fun b u hb e => hm.heap b u (nwr b u e) (hk5 b u (keep3 b u hb e)))
          (by rw [← em]; exact hm.heap P _ (nwr P _ hPs) (hk5 P _ hP3)) (AllBare.movedS (I1.bare.push hgb) hm)
        rw [sh_eta s1 s' hm.os] at J
        refine ⟨upd H1 P (.tbl (ps ++ more)), ⟨⟨ps ++ more, upd_same, by rw [← em]; exact ht3⟩, fun b hb => upd_ne hb⟩, J⟩
  refine ⟨lim2, ?_⟩
  cases hf : codeAmong gpos ps.toList with
  | none =>
    refine wpAny_genexprCodeX hcode (cd.code hP2 ht) (cd.tab hP2) hf fun c' h' tk hx hge hlt hco' _ htab' _ => ?_
    obtain ⟨o1, vs, f1, tf, fl, tg, inF, tx, tt, op, _, _, _, _, _, _, _, _, _, htr, _⟩ := hco'
    exact cont _ h' tk _ hx (Nat.le_trans hge (Nat.le_of_lt hlt)) htab'.2 ⟨_, rfl⟩ htr
  | some cv =>
    refine wpAny_genexprCode_hit hcode (cd.code hP2 ht) hf ?_
    exact cont cv (s1.heap.push o) s1.toks ps (Heap.ExtBut.refl _ _) (Nat.le_refl _) hP2 ⟨#[], by simp⟩ ht
theorem passing_all (b : Nat → Bool) (n : Nat) : passing b n 0 = (List.range n).filter b := by
  unfold passing
  rw [List.drop_zero]
/-- tuple(.. if ..) -/
def tGTupIf (P : Addr) (iw : V → Hp → List V → Prop) (el elc : ER) (te : TE) : TE := fun σ H Q => te σ H fun v H1 => ∃ xs, iw v H1 xs ∧ TabG H1 P ∧ ∃ (b : Nat → Bool) (f : Nat → V), (∀ (i : Nat) x, xs[i]? = some x → elc σ H1 [x] (.bl (b i)) ∧ (b i = true → el σ H1 [x] (f i))) ∧
  xs.length ≤ 100000 ∧ ∀ H2, Tabbed P H1 H2 → ∀ (p : Addr) (o : Obj), H2 p = none → o.dict = none → Q (.ref p) (upd H2 p (.frz o (.tup (((List.range xs.length).filter b).map f))))
theorem pe_tupGenIf {c P : Addr} {elt cnd iter : Expr} {x : Str} {px p pos gpos : Pos} {scope : Scope} {el elc : ER} {te : TE} {iw : V → Hp → List V → Prop} {k : Nat}
    (hr : Room k X.A) (hg : Gl X "tuple") (hm : X.mg "tuple" = none) (TB : TabB X.base X.mg c P) (hcode : X.env.code = .ref c) (S : GX.GS X.env.scope scope x) (hi : PE X iter te) (hiw : GX.IW X iw) (hel : GP X P [x] scope elt el) (hec : GT X P [x] scope cnd elc)
    (hs : ∀ v, genFold iter X.env v = pure v)
    (he : starEach [.GeneratorExp elt [⟨.Name x px, iter, [cnd], 0⟩] scope gpos] X.env = (false, eval (.GeneratorExp elt [⟨.Name x px, iter, [cnd], 0⟩] scope gpos) X.env) :: starEach [] X.env := by rfl) :
    PE X (.Call (.Name "tuple" p) [.GeneratorExp elt [⟨.Name x px, iter, [cnd], 0⟩] scope gpos] [] pos) (tGTupIf P iw el elc te) := by
  refine ⟨fun pins s σ H Q I h => ?_⟩
  refine Call_ (ld_blt I hg hm boot_tuple (PyProof.Rows.callWith_type1 (args_cons (gen_if (R := fun xs H1 b f => xs.length ≤ 100000 ∧ ∀ H2, Tabbed P H1 H2 → ∀ (p : Addr) (o : Obj), H2 p = none → o.dict = none → Q (.ref p) (upd H2 p (.frz o (.tup (((List.range xs.length).filter b).map f))))) hr TB hcode (S.gen I.ok) hi hiw hel hec hs S.vis I h fun xs H1 b f g s5 hR hG => args_nil ?_) he) he))
  rw [passing_all] at hG
  generalize hn : ((List.range xs.length).filter b) = pk at hG hR
  have hpk : pk.length ≤ xs.length := by
    rw [← hn]
    exact Nat.le_trans (List.length_filter_le _ _) (by rw [List.length_range]; exact Nat.le_refl _)
  obtain ⟨fp, wr, G, F, St, W, hst, hfp, hgf, hT, hF, hI⟩ := hG
  obtain ⟨hz, hR⟩ := hR
  refine call_tuple_gen (hsz := Evl.sz_of (Nat.le_trans hpk hz)) W.in4_3 hT hst hfp hgf fun s' acc hm hacc => ?_
  obtain ⟨H2, hTb, J⟩ := hI s' hm
  have hpn : H2 s'.heap.objs.size = none := J.hok.fresh (Nat.le_refl _)
  have hv : Vals (pk.map f) acc.toList := by
    refine vals_of_at (by simp [hacc.1]) fun j y u h1 h2 => ?_
    have h3 : acc[j]? = some u := by simpa using h2
    have h4 := hF j u (hacc.2 j u h3)
    rw [List.getElem?_map] at h1
    obtain ⟨i, hi, h1⟩ := Option.map_eq_some_iff.mp h1
    have h5 : RelV (f (pk.getD j 0)) u := h4.2
    rw [List.getD_eq_getElem?_getD, hi] at h5
    rw [← h1]
    exact h5
  refine ⟨.ref s'.heap.objs.size, upd H2 s'.heap.objs.size (.frz { cls := .type "tuple", data := .seq acc } (.tup (pk.map f))), J.laid (t' := s'.toks) (fun c o e => Heap.get?_push_of_some _ e) (Nat.le_refl _) ?_, rfl, hR H2 hTb _ _ hpn rfl⟩
  refine ⟨Heap.get?_push_size _ rfl, Evl.sz_of (by rw [List.length_map]; omega), acc.toList, hv, ?_⟩
  rw [Array.toArray_toList]
  exact IsTup.new _ _
theorem gt_cmp {P : Addr} {xs : List Str} {sc : Scope} {op : CmpOp} {h : Int → Int → Bool} {a b : Expr} {ea eb : ER} {pos : Pos} (ho : CmpI X op h) (ha : GP X P xs sc a ea) (hb : GP X P xs sc b eb) (hm : behindInMarks op b = false) : GT X P xs sc (.Compare a [op] [b] pos) (elB h ea eb) := fun σ H vs v e cenv A' E' s hA hs g Q q => by
  obtain ⟨m, n, h1, h2, e3⟩ := e
  injection e3 with e3
  subst e3
  refine wpAny_isTrue_Compare1 (ha σ H vs _ h1 cenv A' E' s hA hs g _ fun u s1 r1 k1 => hb σ H vs _ h2 cenv A' E' s1 hA hs (g.keeps k1) _ fun w s2 r2 k2 => ?_) hm
  obtain ⟨t, rfl⟩ := r1
  obtain ⟨t', rfl⟩ := r2
  exact ho _ _ _ _ _ _ _ _ (wpAny_truthy_bool (q _ (PySem.Keeps.tr k1 k2)))
end
end GY
namespace TkO
open PySem PySem.Spec PyProof.Rows L2
theorem units20 {k : Nat} {A : Around} (h : Room k A) : A.units + 20 < cLine := by
  have := h.un
  omega
end TkO
namespace DL
open PySem PySem.Spec PyProof.Rows L2 GxR GY DY
section
variable {T : Tb} {K : PySem.W.Frag} {E : XK} {g g' : G} {r r' r1 r2 r3 : Rs} {ta tb tc te : TE} {t : TT} {x y z d : D} {ds es xs : List D} {tas : TA} {O O' : Out} {P : Addr} {tg : TG} {vs : List Nat}
/-- tuple(.. if ..) -/
theorem ev_tupYIf {iw : V → Hp → List V → Prop} {el elc : GY.ER} {fd : D → D} {bd : D → Bool} (hP : P ∈ T.gs) (h : Ev T K te g r x r1) (hw : IwD T K iw x g r1 ds) (hc : ∀ d ∈ ds, ElY T K elc g r1 [d] (.bl (bd d))) (he : ∀ d ∈ ds, bd d = true → ElY T K el g r1 [d] (fd d)) (hz : ds.length ≤ 100000) :
    Ev T K (GY.tGTupIf P iw el elc te) g r (.tux ((ds.filter bd).map fd)) r1 := fun rf Hs H σ s Q q =>
  h rf Hs H σ s _ fun v Hs1 H1 e1 s1 rv => by
    obtain ⟨ys, h1, h2⟩ := hw rf Hs1 H1 σ v s1 rv
    have hl := h2.length
    have ok : ∀ (i : Nat), ∃ w : V, ∀ y d, ys[i]? = some y → ds[i]? = some d → elc σ H1 [y] (.bl (bd d)) ∧ (bd d = true → el σ H1 [y] w ∧ DR K Hs1 w (fd d)) := fun i => by
      cases hd : ds[i]? with
      | none => exact ⟨.non, fun y d _ e => by cases e⟩
      | some d =>
        obtain ⟨y, hy, ry⟩ := h2.get hd
        have hm := List.mem_of_getElem? hd
        obtain ⟨c, rc, ec⟩ := hc d hm rf Hs1 H1 σ s1 [y] (.cons ry .nil)
        cases rc
        by_cases hb : bd d = true
        · obtain ⟨w, rw', ew⟩ := he d hm hb rf Hs1 H1 σ s1 [y] (.cons ry .nil)
          exact ⟨w, fun y' d' a b => by rw [hy] at a; cases a; cases b; exact ⟨ec, fun _ => ⟨ew, rw'⟩⟩⟩
        · exact ⟨.non, fun y' d' a b => by rw [hy] at a; cases a; cases b; exact ⟨ec, fun z => (hb z).elim⟩⟩
    let f : Nat → V := fun i => Classical.choose (ok i)
    have hf : ∀ i y d, ys[i]? = some y → ds[i]? = some d → elc σ H1 [y] (.bl (bd d)) ∧ (bd d = true → el σ H1 [y] (f i) ∧ DR K Hs1 (f i) (fd d)) := fun i => Classical.choose_spec (ok i)
    let b : Nat → Bool := fun i => match ds[i]? with | some d => bd d | none => false
    have hbd : ∀ i d, ds[i]? = some d → b i = bd d := fun i d e => by
      show (match ds[i]? with | some d => bd d | none => false) = _
      rw [e]
    refine ⟨ys, h1, s1.wfH.g P hP, b, f, fun i y hy => ?_, by omega, fun H2 hT p o hp ho => ?_⟩
    · have hi : i < ds.length := by have := (List.getElem?_eq_some_iff.mp hy).1; omega
      have hd := List.getElem?_eq_getElem hi
      rw [hbd i _ hd]
      obtain ⟨k1, k2⟩ := hf i y _ hy hd
      exact ⟨k1, fun z => (k2 z).1⟩
    · have key : ∀ (l : List Nat), (∀ i ∈ l, i < ds.length) → DRs K Hs1 ((l.filter b).map f) (((l.map fun i => ds.getD i .non).filter bd).map fd) := by
        intro l
        induction l with
        | nil => intro _; exact .nil
        | cons i l ih =>
          intro hl'
          have hi := hl' i List.mem_cons_self
          have hd := List.getElem?_eq_getElem hi
          have ih := ih fun j hj => hl' j (List.mem_cons_of_mem _ hj)
          have eg : ds.getD i .non = ds[i] := by rw [List.getD_eq_getElem?_getD, hd]; rfl
          rw [List.map_cons, eg, List.filter_cons, List.filter_cons, hbd i _ hd]
          by_cases hb : bd ds[i] = true
          · rw [if_pos hb, if_pos hb, List.map_cons, List.map_cons]
            obtain ⟨y, hy, _⟩ := h2.get hd
            exact .cons ((hf i y _ hy hd).2 hb).2 ih
          · rw [if_neg hb, if_neg hb]
            exact ih
      have k := key (List.range ds.length) fun i hi => List.mem_range.mp hi
      have eds : (List.range ds.length).map (fun i => ds.getD i .non) = ds := by
        apply List.ext_getElem?
        intro i
        rw [List.getElem?_map]
        by_cases hi : i < ds.length
        · rw [List.getElem?_range hi, List.getElem?_eq_getElem hi]
          show some (ds.getD i .non) = _
          rw [List.getD_eq_getElem?_getD, List.getElem?_eq_getElem hi]
          rfl
        · rw [List.getElem?_eq_none (by simp; omega), List.getElem?_eq_none (by omega)]
          rfl
      rw [eds] at k
      rw [hl]
      obtain ⟨s3, e3⟩ := (s1.tabbed hP hT).alloc (o := .frz o (.tup (((List.range ds.length).filter b).map f))) hp True.intro
      exact q _ _ _ (e1.trans e3) s3 (.tux upd_same ho (DRs.mono e3 _ k))
/-! ### zip of two lists -/
theorem steps_zipL {Hs : Hp} {a b : Addr} {xs ys : List V} (h1 : ∀ Hs' H' : Hp, Ext T Hs Hs' → Ext T Hs' H' → SqL K H' a xs) (h2 : ∀ Hs' H' : Hp, Ext T Hs Hs' → Ext T Hs' H' → SqL K H' b ys) (r1 : DRs K Hs xs ds) (r2 : DRs K Hs ys es) : Steps T K Hs (Itz K a b) (ds.zipWith (fun p q => D.tup [p, q]) es) := fun i Hs' H' e1 e2 => by
  have k1 : SqL K H' a xs := h1 _ _ e1 e2
  have k2 : SqL K H' b ys := h2 _ _ e1 e2
  refine ⟨fun hl => ⟨xs, ys, k1, k2, ?_⟩, fun d hd => ?_⟩
  · rw [List.length_zipWith] at hl
    rw [r1.length, r2.length]
    omega
  · rw [List.getElem?_zipWith] at hd
    cases q1 : ds[i]? with
    | none => rw [q1] at hd; cases hd
    | some d1 =>
      cases q2 : es[i]? with
      | none => rw [q1, q2] at hd; cases hd
      | some d2 =>
        rw [q1, q2] at hd
        cases hd
        obtain ⟨v1, a1, a2⟩ := r1.get q1
        obtain ⟨v2, b1, b2⟩ := r2.get q2
        refine ⟨⟨xs, ys, v1, v2, k1, k2, a1, b1⟩, fun v H2 y => ?_⟩
        obtain ⟨p, u1, u2, rfl, hp, rfl, y1, y2⟩ := y
        have z1 := y1 xs k1
        rw [a1] at z1
        cases z1
        have z2 := y2 ys k2
        rw [b1] at z2
        cases z2
        have hp0 : Hs' p = none := e2.back hp
        have e3 : Ext T Hs' (upd Hs' p (.tup [v1, v2])) := Ext.new hp0
        exact ⟨_, e3, .tup (Evl.st_of upd_same) (.cons (DR.mono (e1.trans e3) _ a2) (.cons (DR.mono (e1.trans e3) _ b2) .nil)), fun σ g r s => (s.alloc (o := .tup [v1, v2]) hp True.intro).1⟩
theorem ei_zipL (h : EvA T K tas g r [.lst ds, .lst es] r1) : EvI T K (RZ.iZipA K tas) g r (ds.zipWith (fun p q => D.tup [p, q]) es) r1 := fun rf Hs H σ s R q => h rf Hs H σ s _ fun vs Hs1 H1 e s1 rvs => by
  obtain ⟨v, w, rfl, rv, rw'⟩ := rvs.two
  cases rv with
  | @lst a xs _ a1 a2 =>
    cases rw' with
    | @lst b ys _ b1 b2 =>
      have ka : ∀ Hs' H' : Hp, Ext T Hs1 Hs' → Ext T Hs' H' → SqL K H' a xs := fun Hs' H' e1 e2 => Evl.sq_of (e2.keep _ _ (e1.keep _ _ a1 (fun _ z => nomatch z)) (fun _ z => nomatch z))
      have kb : ∀ Hs' H' : Hp, Ext T Hs1 Hs' → Ext T Hs' H' → SqL K H' b ys := fun Hs' H' e1 e2 => Evl.sq_of (e2.keep _ _ (e1.keep _ _ b1 (fun _ z => nomatch z)) (fun _ z => nomatch z))
      exact ⟨a, b, xs, ys, rfl, Or.inl ⟨ka _ _ (Ext.refl _) s1.ex, kb _ _ (Ext.refl _) s1.ex, q _ _ _ e s1 (steps_zipL ka kb a2 b2)⟩⟩
/-! ### max, min of two numbers -/
theorem ca_max2 {i j : Int} : CaD T K (fun xs H Q => ∃ i j, xs = [.int i, .int j] ∧ Q (.int (if j > i then j else i)) H) [.int i, .int j] g r (.int (if j > i then j else i)) r := fun rf Hs H σ us s ru Q q => by
  obtain ⟨v, w, rfl, rv, rw'⟩ := ru.two
  cases rv
  cases rw'
  exact ⟨i, j, rfl, q _ _ _ (Ext.refl _) s (.int _)⟩
theorem ca_min2 {i j : Int} : CaD T K (fun xs H Q => ∃ i j, xs = [.int i, .int j] ∧ Q (.int (if j < i then j else i)) H) [.int i, .int j] g r (.int (if j < i then j else i)) r := fun rf Hs H σ us s ru Q q => by
  obtain ⟨v, w, rfl, rv, rw'⟩ := ru.two
  cases rv
  cases rw'
  exact ⟨i, j, rfl, q _ _ _ (Ext.refl _) s (.int _)⟩
/-! ### rows whose objects have no dict, read as rows -/
abbrev rowX (l : List Int) : D := .tux (l.map D.int)
theorem drs_weakX {Hs : Hp} : ∀ {rows : List (List Int)} {vs : List V}, DRs K Hs vs (rows.map rowX) → DRs K Hs vs (rows.map fun l => D.tup (l.map D.int))
  | [], _, .nil => .nil
  | _ :: _, _, .cons r t => .cons r.weakT (drs_weakX t)
theorem ev_wT {rows : List (List Int)} (h : Ev T K te g r (.tup (rows.map rowX)) r1) : Ev T K te g r (.tup (rows.map fun l => D.tup (l.map D.int))) r1 := fun rf Hs H σ s Q q => h rf Hs H σ s _ fun v Hs1 H1 e s1 rv => by
  cases rv with
  | tup a b => exact q _ _ _ e s1 (.tup a (drs_weakX b))
theorem ev_wL {rows : List (List Int)} (h : Ev T K te g r (.lst (rows.map rowX)) r1) : Ev T K te g r (.lst (rows.map fun l => D.tup (l.map D.int))) r1 := fun rf Hs H σ s Q q => h rf Hs H σ s _ fun v Hs1 H1 e s1 rv => by
  cases rv with
  | lst a b => exact q _ _ _ e s1 (.lst a (drs_weakX b))
/-- o.f = e, e raises -/
theorem st_exF {C : Addr} {f : Str} {tv : TE} (h : EvX T K E tv g r C r1) (h2 : O.ex C r1) : StD T K E (sFld K ta tv f) g r O := fun rf Hs H σ s En G => h rf Hs H σ s _ fun Hs1 H1 e s1 => G.ex C _ _ _ _ _ h2 e s1
theorem sq_parER {i j : Nat} {ts : TS} {ks : List (List Int)} (h1 : Ev T K ta g r x r1) (h2 : EvR2 T K tb g r1 ks es r2) (hk : ∀ q, StD T K E ts ((g.set i (some x)).set j (some (.ref q))) (rr q ks es :: r2) O) : StD T K E (tSeq (tPar i j (tCons ta (tCons tb tNil))) ts) g r O := fun rf Hs H σ s En G =>
  h1 rf Hs H σ s _ fun v Hs1 H1 e1 s1 rv => h2 rf Hs1 H1 σ s1 _ fun q Hs2 H2 e2 s2 => ⟨v, .ref q, rfl, hk q rf Hs2 H2 _ ((s2.set (DR.mono e2 x rv) i).set (.ref q) j) En (G.ext (e1.trans e2))⟩
/-- what is one's own is given up -/
theorem ev_cutA (h : Ev T K te g r d r1) : Ev T K te g r d [] := fun rf Hs H σ s Q q => h rf Hs H σ s _ fun v Hs1 H1 e s1 rv => q v Hs1 H1 e (SR.dropL r1 s1) rv
end
end DL
namespace Bs
open PySem PySem.Spec PyProof.Rows L2 DL
/-! ### leads -/
def leadV : List (List Int) → List Int → List (List Int)
  | [], _ => []
  | p :: ps, l => chg p l :: leadV ps (chg p l)
def headV : List (List Int) → List Int → List Int
  | [], l => l
  | p :: ps, l => headV ps (chg p l)
theorem lead_len : ∀ (ps : List (List Int)) (l : List Int), (leadV ps l).length = ps.length
  | [], _ => rfl
  | p :: ps, l => by rw [leadV, List.length_cons, lead_len ps, List.length_cons]
theorem lead_last : ∀ {ps : List (List Int)} {l : List Int}, ps ≠ [] → (leadV ps l).getLast? = some (headV ps l)
  | [], _, h => (h rfl).elim
  | [p], l, _ => rfl
  | p :: q :: ps, l, _ => by
    have := lead_last (ps := q :: ps) (l := chg p l) (by simp)
    show (chg p l :: leadV (q :: ps) (chg p l)).getLast? = some (headV (q :: ps) (chg p l))
    rw [← this]
    show (chg p l :: chg q (chg p l) :: leadV ps _).getLast? = (chg q (chg p l) :: leadV ps _).getLast?
    rw [List.getLast?_cons_cons]
theorem lead_perm : ∀ (ps : List (List Int)) (l : List Int), ∀ q ∈ leadV ps l, q.Perm l
  | [], _, q, h => by cases h
  | p :: ps, l, q, h => by
    rcases List.mem_cons.mp h with e | h
    · rw [e]; exact chg_perm p l
    · exact (lead_perm ps _ q h).trans (chg_perm p l)
theorem head_perm : ∀ (ps : List (List Int)) (l : List Int), (headV ps l).Perm l
  | [], l => .refl _
  | p :: ps, l => (head_perm ps _).trans (chg_perm p l)
theorem lead_app : ∀ (ps qs : List (List Int)) (l : List Int), leadV (ps ++ qs) l = leadV ps l ++ leadV qs (headV ps l)
  | [], qs, l => rfl
  | p :: ps, qs, l => by
    show chg p l :: leadV (ps ++ qs) (chg p l) = chg p l :: (leadV ps (chg p l) ++ leadV qs (headV ps (chg p l)))
    rw [lead_app]
theorem head_app : ∀ (ps qs : List (List Int)) (l : List Int), headV (ps ++ qs) l = headV qs (headV ps l)
  | [], qs, l => rfl
  | p :: ps, qs, l => head_app ps qs (chg p l)
/-! ### a change moves places, whatever stands there -/
theorem chgL_map (f : Int → Int) (p : List Int) : ∀ (n : Nat) (k : Nat) (l : List Int), l.length ≤ n → chgL p k (l.map f) = (chgL p k l).map f
  | 0, k, [], _ => by simp [chgL]
  | n + 1, k, [], _ => by simp [chgL]
  | n + 1, k, [a], _ => by simp [chgL]
  | n + 1, k, a :: b :: rest, h => by
    have h1 : (b :: rest).length ≤ n := by simpa using h
    have h2 : rest.length ≤ n := by simp at h; omega
    rw [List.map_cons, List.map_cons, chgL, chgL]
    by_cases hp : ((k : Int) + 1) ∈ p
    · rw [if_pos hp, if_pos hp, List.map_cons, ← chgL_map f p n (k + 1) (b :: rest) h1]
      rfl
    · rw [if_neg hp, if_neg hp, List.map_cons, List.map_cons, chgL_map f p n (k + 2) rest h2]
theorem chg_map (f : Int → Int) (p l : List Int) : chg p (l.map f) = (chg p l).map f := chgL_map f p _ _ l (Nat.le_refl _)
theorem head_map (f : Int → Int) : ∀ (ps : List (List Int)) (l : List Int), headV ps (l.map f) = (headV ps l).map f
  | [], l => rfl
  | p :: ps, l => by
    show headV ps (chg p (l.map f)) = (headV ps (chg p l)).map f
    rw [chg_map, head_map]
/-! ### it comes round -/
def itH (ps : List (List Int)) (n : Nat) : Nat → List Int
  | 0 => rng n
  | t + 1 => headV ps (itH ps n t)
def itS (s : Int → Int) : Nat → Int → Int
  | 0, b => b
  | t + 1, b => itS s t (s b)
theorem itS_add (s : Int → Int) : ∀ (t u : Nat) (b : Int), itS s (t + u) b = itS s u (itS s t b)
  | 0, u, b => by rw [Nat.zero_add]; rfl
  | t + 1, u, b => by
    rw [show t + 1 + u = (t + u) + 1 by omega]
    show itS s (t + u) (s b) = itS s u (itS s t (s b))
    exact itS_add s t u (s b)
theorem itH_map {ps : List (List Int)} {n : Nat} {s : Int → Int} (h : headV ps (rng n) = (rng n).map s) : ∀ t, itH ps n t = (rng n).map (itS s t)
  | 0 => by
    show rng n = (rng n).map fun b => b
    simp
  | t + 1 => by
    show headV ps (itH ps n t) = _
    rw [itH_map h t, head_map, h, List.map_map]
    rfl
theorem nodup_le : ∀ {l m : List Int}, l.Nodup → (∀ x ∈ l, x ∈ m) → l.length ≤ m.length
  | [], _, _, _ => Nat.zero_le _
  | a :: l, m, h, hs => by
    have ha := hs a List.mem_cons_self
    have h2 := List.nodup_cons.mp h
    have := nodup_le (l := l) (m := m.erase a) h2.2 fun x hx => (List.mem_erase_of_ne (fun e => h2.1 (by rw [← e]; exact hx))).mpr (hs x (List.mem_cons_of_mem _ hx))
    rw [List.length_erase_of_mem ha] at this
    have hm := List.length_pos_of_mem ha
    rw [List.length_cons]
    omega
theorem back {s : Int → Int} {m : List Int} (hin : ∀ b ∈ m, s b ∈ m) (hinj : ∀ a ∈ m, ∀ b ∈ m, s a = s b → a = b) {b : Int} (hb : b ∈ m) : ∃ k, 1 ≤ k ∧ k ≤ m.length ∧ itS s k b = b := by
  have mem : ∀ t, ∀ b ∈ m, itS s t b ∈ m := by
    intro t
    induction t with
    | zero => intro b hb; exact hb
    | succ t ih => intro b hb; exact ih _ (hin b hb)
  have inj : ∀ t, ∀ a ∈ m, ∀ b ∈ m, itS s t a = itS s t b → a = b := by
    intro t
    induction t with
    | zero => intro a _ b _ h; exact h
    | succ t ih => intro a ha b hb h; exact hinj a ha b hb (ih _ (hin a ha) _ (hin b hb) h)
  apply Classical.byContradiction
  intro hno
  have nd : ((List.range (m.length + 1)).map fun i => itS s i b).Nodup := by
    refine List.Pairwise.map _ (fun i j h => h) ?_
    refine List.Pairwise.imp_of_mem (R := fun i j => i < j) (fun {i j} hi hj hij e => ?_) List.pairwise_lt_range
    have hi := List.mem_range.mp hi
    have hj := List.mem_range.mp hj
    apply hno
    refine ⟨j - i, by omega, by omega, ?_⟩
    have e2 : itS s j b = itS s i (itS s (j - i) b) := by
      rw [← itS_add, show j - i + i = j by omega]
    rw [e2] at e
    exact (inj i b hb _ (mem _ b hb) e).symm
  have := nodup_le nd fun x hx => by
    obtain ⟨i, _, rfl⟩ := List.mem_map.mp hx
    exact mem i b hb
  simp at this
  omega
theorem itS_mul {s : Int → Int} {b : Int} {k : Nat} (h : itS s k b = b) : ∀ q, itS s (k * q) b = b
  | 0 => rfl
  | q + 1 => by rw [Nat.mul_succ, itS_add, itS_mul h q, h]
def fac : Nat → Nat
  | 0 => 1
  | n + 1 => (n + 1) * fac n
theorem dvd_fac : ∀ {n k : Nat}, 1 ≤ k → k ≤ n → k ∣ fac n
  | 0, k, h1, h2 => by omega
  | n + 1, k, h1, h2 => by
    by_cases e : k = n + 1
    · subst e; exact ⟨fac n, rfl⟩
    · obtain ⟨c, hc⟩ := dvd_fac (n := n) h1 (by omega)
      exact ⟨(n + 1) * c, by show (n + 1) * fac n = _; rw [hc, Nat.mul_left_comm]⟩
theorem rng_nodupN (n : Nat) : (rng n).Nodup := by
  unfold rng
  refine List.Pairwise.map _ (fun a b h => ?_) List.nodup_range
  omega
theorem round_fac (ps : List (List Int)) (n : Nat) : itH ps n (fac n) = rng n := by
  let h := headV ps (rng n)
  have hp : h.Perm (rng n) := head_perm ps _
  have hl : h.length = n := by rw [hp.length_eq, rng_len]
  let s : Int → Int := fun b => h.getD (b - 1).toNat 0
  have hs : h = (rng n).map s := by
    apply List.ext_getElem?
    intro i
    by_cases hi : i < n
    · rw [List.getElem?_map]
      have : (rng n)[i]? = some (1 + (i : Int)) := by unfold rng; rw [List.getElem?_map, List.getElem?_range hi]; rfl
      rw [this]
      show _ = some (h.getD (1 + (i : Int) - 1).toNat 0)
      rw [show (1 + (i : Int) - 1).toNat = i by omega, List.getD_eq_getElem?_getD, List.getElem?_eq_getElem (by omega)]
      rfl
    · rw [List.getElem?_eq_none (by omega), List.getElem?_eq_none (by rw [List.length_map, rng_len]; omega)]
  have nd : ((rng n).map s).Nodup := by rw [← hs]; exact hp.nodup_iff.mpr (rng_nodupN n)
  have inj : ∀ a ∈ rng n, ∀ b ∈ rng n, s a = s b → a = b := by
    have key : ∀ (l : List Int), (l.map s).Nodup → ∀ a ∈ l, ∀ b ∈ l, s a = s b → a = b := by
      intro l
      induction l with
      | nil => intro _ a ha; cases ha
      | cons x l ih =>
        intro h a ha b hb e
        rw [List.map_cons, List.nodup_cons] at h
        rcases List.mem_cons.mp ha with e1 | ha
        · rcases List.mem_cons.mp hb with e2 | hb
          · rw [e1, e2]
          · exact (h.1 (by rw [← e1, e]; exact List.mem_map_of_mem hb)).elim
        · rcases List.mem_cons.mp hb with e2 | hb
          · exact (h.1 (by rw [← e2, ← e]; exact List.mem_map_of_mem ha)).elim
          · exact ih h.2 a ha b hb e
    exact key _ nd
  have inn : ∀ b ∈ rng n, s b ∈ rng n := fun b hb => hp.mem_iff.mp (by
    show s b ∈ h
    rw [hs]
    exact List.mem_map_of_mem hb)
  rw [itH_map hs]
  have : ∀ b ∈ rng n, itS s (fac n) b = b := fun b hb => by
    obtain ⟨k, h1, h2, h3⟩ := back inn inj hb
    rw [rng_len] at h2
    obtain ⟨q, hq⟩ := dvd_fac h1 h2
    rw [hq]
    exact itS_mul h3 q
  rw [List.map_congr_left this]
  simp
/-! ### the course -/
def crsF (ps : List (List Int)) (n : Nat) : Nat → List Int → List (List Int)
  | 0, row => leadV ps row
  | f + 1, row => leadV ps row ++ (if headV ps row = rng n then [] else crsF ps n f (headV ps row))
def courseV (ps : List (List Int)) (n : Nat) : List (List Int) := crsF ps n 5040 (rng n)
/-- within f + 1 leads it is round -/
def Rnd (ps : List (List Int)) (n : Nat) (f : Nat) (row : List Int) : Prop := ∃ j ≤ f, (Nat.repeat (headV ps) (j + 1) row) = rng n
theorem rep_itH (ps : List (List Int)) (n : Nat) : ∀ j, Nat.repeat (headV ps) j (rng n) = itH ps n j
  | 0 => rfl
  | j + 1 => by
    show headV ps (Nat.repeat (headV ps) j (rng n)) = headV ps (itH ps n j)
    rw [rep_itH]
theorem rep_in (f : List Int → List Int) : ∀ (j : Nat) (a : List Int), Nat.repeat f (j + 1) a = Nat.repeat f j (f a)
  | 0, a => rfl
  | j + 1, a => by
    show f (Nat.repeat f (j + 1) a) = f (Nat.repeat f j (f a))
    rw [rep_in f j a]
theorem fac_pos : ∀ n, 1 ≤ fac n
  | 0 => Nat.le_refl _
  | n + 1 => Nat.mul_pos (Nat.succ_pos _) (fac_pos n)
theorem rnd_0 (ps : List (List Int)) {n : Nat} (h : n ≤ 7) : Rnd ps n 5040 (rng n) := by
  have hf : fac n ≤ 5040 := by
    have : ∀ n : Fin 8, fac n.val ≤ 5040 := by decide
    exact this ⟨n, by omega⟩
  refine ⟨fac n - 1, by omega, ?_⟩
  rw [show fac n - 1 + 1 = fac n by have := fac_pos n; omega, rep_itH, round_fac]
theorem rnd_next {ps : List (List Int)} {n f : Nat} {row : List Int} (h : Rnd ps n (f + 1) row) (hne : headV ps row ≠ rng n) : Rnd ps n f (headV ps row) := by
  obtain ⟨j, hj, e⟩ := h
  cases j with
  | zero => exact (hne e).elim
  | succ j =>
    refine ⟨j, by omega, ?_⟩
    rw [rep_in] at e
    exact e
theorem rnd_end {ps : List (List Int)} {n : Nat} {row : List Int} (h : Rnd ps n 0 row) : headV ps row = rng n := by
  obtain ⟨j, hj, e⟩ := h
  obtain rfl : j = 0 := by omega
  exact e
theorem crs_len (ps : List (List Int)) (n : Nat) : ∀ (f : Nat) (row : List Int), (crsF ps n f row).length ≤ (f + 1) * ps.length
  | 0, row => by rw [crsF, lead_len]; omega
  | f + 1, row => by
    rw [crsF, List.length_append, lead_len]
    have := crs_len ps n f (headV ps row)
    split
    · simp
      rw [Nat.add_mul, Nat.add_mul]
      omega
    · rw [show (f + 1 + 1) * ps.length = (f + 1) * ps.length + ps.length by rw [Nat.add_mul (f + 1)]; omega]
      omega
end Bs
namespace ExtT
open PySem PySem.Spec PyProof.Rows L2 AutoSeq1
open Builtin Builtin.List
theorem iadd_tup (l : Addr) (items : Array Value) (n : Nat) (b : Addr) (items2 : Array Value) (n2 : Nat) (dc : Option Addr) (sl : Array (Option Value)) (hs0 : ¬(!items.isEmpty && Builtin.List.listTooLong (items.size + items2.size)) = true) (hs1 : items.size ≤ sizeLine) (hs2 : items.size + items2.size ≤ sizeLine + 1) :
    Meets (Builtin.«list.__iadd__» ⟨[.ref l, .ref b], []⟩) (fun _ R s => s.heap.get? l = some { cls := .type "list", dict := none, data := .seq items n, slots := #[] } ∧ s.heap.get? b = some { cls := .type "tuple", dict := dc, data := .seq items2 n2, slots := sl } ∧ R (.ok (.ret (Value.ref l))) { s with heap := s.heap.update l (Obj.mapSeq fun x => x ++ items2), toks := s.toks }) :=
  .of_wp fun prog w A R s h => by
    obtain ⟨hp, g, d, tk, os⟩ := s
    obtain ⟨hl, hb, h⟩ := h
    have f1 := idx_int
    have f2 := AutoSeq1.sub_tuple_tuple
    have f3 := AutoSeq1.sub_list_list
    have f4 := AutoSeq1.sub_tuple_list
    have f5 := AutoSeq1.sub_list_tuple
    have hz' : (items ++ items2).size ≤ sizeLine + 1 := by rw [Array.size_append]; exact hs2
    wp_walk using (wpAny_updateSeq hl rfl (hz := hs1) (_hz' := hz')), wpAny_loadPart' hl, wpAny_loadPart' hb
    exact ⟨_, rfl, h⟩
theorem bin1_none2 {M : Model} {A : Around} {E : Value → Shared → Prop} {s : Shared} {a b : Value} {T U nm : String} {Q : Option Value → Shared → Prop} (ha : s.TypeIs a T) (hb : s.TypeIs b U)
    (hT : fillsNumberSlot (.type T) nm = pure false) (hU : fillsNumberSlot (.type U) nm = pure false) (h : Q none s) : wpAny M A (binaryOp1 nm a b) Q E s := by
  simp only [binaryOp1]
  refine wpAny_bind (wpAny_typeOf ha (wpAny_bind (wpAny_typeOf hb (wpAny_bind (wpAny_of_eq hT ?_)))))
  simp only [hU, ite_self, pure_bind, Bool.false_and, Bool.false_eq_true, if_false]
  exact wpAny_pure h
theorem road {M : Model} {A : Around} {E : Value → Shared → Prop} {s : Shared} {a b : Value} {Q : Value → Shared → Prop} (ha : s.TypeIs a "list") (hb : s.TypeIs b "tuple") (hc : wpAny M A (call (.builtin "list.__iadd__") [a, b]) Q E s) : wpAny M A (inplaceOp .Add a b) Q E s := by
  have h1 : typeLookup (.type "list") (dunderI "add") = pure (some (.builtin "list.__iadd__")) := PySem.F.slot_list_iadd.lookup
  have h2 : isSeqSlot (some (.builtin "list.__iadd__")) = true := by decide +kernel
  have h3 : fillsInplaceSlot (.type "list") "add" (Operator.Add == .Add) = pure false := by
    unfold fillsInplaceSlot
    show (typeLookup (.type "list") (dunderI "add") >>= fun z => pure (z.isSome && !isSeqSlot z)) = pure false
    rw [h1]
    show (pure (true && !isSeqSlot (some (.builtin "list.__iadd__"))) : Sem Bool) = pure false
    rw [h2]
    rfl
  unfold inplaceOp
  refine wpAny_holding (wpAny_bind (wpAny_typeOf ha (wpAny_bind (wpAny_of_eq h3 ?_))))
  show wpAny M A (if false = true then _ else _) Q E s
  rw [if_neg Bool.false_ne_true]
  refine wpAny_bind (bin1_none2 (nm := "add") ha hb noFill_list_add noFill_tuple_add ?_)
  exact wpAny_bind (wpAny_of_eq (PySem.seqSlot_of h1 h2) (wpAny_bind (wpAny_rule hc)))
/-- xs += ys, ys a tuple -/
def rExtT (K : PySem.W.Frag) : R2 := fun x y H Q => ∃ l b xs zs, x = .ref l ∧ y = .ref b ∧ H l = some (.lst xs) ∧ SqT K H b zs ∧ xs.length + zs.length ≤ sizeLine ∧ Q (.ref l) (upd H l (.lst (xs ++ zs)))
theorem iop_extT {X : Cx} : OpR X (inplaceOp .Add) (rExtT X.K) := by
  intro pins s σ H x y v u Q I rx ry h
  obtain ⟨l, b, xs, zs, rfl, rfl, hH, hB, hz, q⟩ := h
  cases rx
  cases ry
  obtain ⟨z, its, n, r, hl, e⟩ := I.lstM hH
  obtain ⟨its2, r2, ⟨⟨c2, d2, data2, sl2⟩, o2, k2, n2, e2⟩, hl2⟩ := I.tuple hB
  simp only at k2 e2
  subst k2 e2
  have l1 := r.length
  have l2 := r2.length
  have hsz : its.toArray.size + its2.toArray.size ≤ sizeLine := by rw [List.size_toArray, List.size_toArray]; omega
  have hlong : ¬ (!its.toArray.isEmpty && Builtin.List.listTooLong (its.toArray.size + its2.toArray.size)) = true := by
    rw [notLongL hsz, Bool.and_false]
    exact Bool.false_ne_true
  refine road ⟨_, e, rfl⟩ ⟨_, o2, rfl⟩ (call_meets PySem.F.slot_list_iadd ⟨_, e, rfl⟩ PySem.F.entry_list_iadd (PySem.F.args_list_iadd_2 _ _)
    (iadd_tup l its.toArray n b its2.toArray n2 d2 sl2 hlong (by rw [List.size_toArray]; omega) (by omega)) ⟨e, o2, ?_⟩)
  refine ⟨.ref l, _, I.lset (its' := its ++ its2) (t' := s.toks) hH e (by simp) (r.append r2) ?_, rfl, q⟩
  rw [List.length_append]
  omega
end ExtT
namespace DL
open PySem PySem.Spec PyProof.Rows L2
theorem od_extT {T : Tb} {K : PySem.W.Frag} {g : G} {r : Rs} {ds es : List D} {p : Addr} (j : Nat) (hj : r[j]? = some (rl p ds)) (hl : ds.length + es.length ≤ 100000) : OpD T K (ExtT.rExtT K) (.ref p) (.tup es) g r (.ref p) (r.set j (rl p (ds ++ es))) := fun rf Hs H σ u v s ru rv Q q => by
  cases ru
  obtain ⟨ys, h1, h2⟩ := s.rs _ (List.mem_append_left _ (List.mem_of_getElem? hj))
  obtain ⟨b, zs, rfl, b1, b2⟩ := rv.tupI
  exact ⟨p, b, ys, zs, rfl, rfl, h1, s.ex.st b1, by rw [h2.length, b2.length]; exact Evl.sz_of hl, q _ _ _ (Ext.refl _) (s.turn hj (h2.append b2)) (.ref p)⟩
end DL
namespace Bs
open PySem PySem.Spec PyProof.Rows L2 DL GX GxR DY




section
variable {P : Program} {w : World} {K : PySem.W.Frag} {mg : Str → Option Value} {base : Heap} {T : Tb} {cRow cPl cM cE : Addr} {f c Pt : Addr} {fd : FuncData} {uS uM : Value}











/-- the class of methods -/
structure ClsM (K : PySem.W.Frag) (C : Addr) : Prop where
  c : Cls K C
  n1 : NoAttr K C "name"
  n2 : NoAttr K C "bells"
  n3 : NoAttr K C "changes"
abbrev mN : List Str := ["name", "bells", "changes"]
abbrev metD (C : Addr) (nm : Str) (n : Nat) (chs : List (List Int)) : D := .ins C mN [.str nm, .int n, .tup (chs.map rowD)]
/-- a method of the class at C -/
structure CalM (P : Program) (w : World) (K : PySem.W.Frag) (mg : Str → Option Value) (base : Heap) (T : Tb) (C : Addr) (m : Str) (k : Nat) (ps : List Str) (R : List D → Rs → Oc → Prop) : Prop where
  ex : ∃ (f : Addr) (fd : FuncData), FnOk P w K mg base (L2.CX P w) k f fd ps (spR T K ps.length R) ∧ Meth K C m f ∧ Binds K fd ps []
/-- its maker -/
structure CalI (P : Program) (w : World) (K : PySem.W.Frag) (mg : Str → Option Value) (base : Heap) (T : Tb) (C : Addr) (x : Str) (k : Nat) (ps : List Str) (R : List D → Rs → Oc → Prop) : Prop where
  ex : ∃ (f : Addr) (fd : FuncData), FnOk P w K mg base (L2.CX P w) k f fd ps (spR T K ps.length R) ∧ Mk K C f ∧ mg x = some (.ref C) ∧ Binds K fd ps []
/-- a method that stands -/
def metOk (n : Nat) (chs : List (List Int)) : Prop := (3 ≤ n ∧ n ≤ 12) ∧ (0 < chs.length ∧ chs.length ≤ 400) ∧ ∀ p ∈ chs, okP n p
def R_init (cRow cPl C : Addr) : Rel := fun ds r o => ∃ (p : Addr) (nm : Str) (n : Nat) (z : Str) (o2 : Oc), R_changes_of cRow cPl [.str z, .int n] [] o2 ∧ ds = [.ref p, .str nm, .int n, .str z] ∧ r = [ri p C [] []] ∧
  ((∃ l : List (List Int), o2 = .one (.tup (l.map rowD)) [] ∧ o = .one .non [ri p C mN [.str nm, .int n, .tup (l.map rowD)]]) ∨ ∃ Ce : Addr, o2 = .err Ce [] ∧ o = .err Ce [ri p C ["name", "bells"] [.str nm, .int n]])
def R_lead (cPl C : Addr) : Rel := fun ds r o => ∃ (nm : Str) (n : Nat) (chs : List (List Int)) (l : List Int), chs.length ≤ 400 ∧ good l ∧ (∀ p ∈ chs, p.length ≤ 1000) ∧ ds = [metD C nm n chs, rowD l] ∧ r = [] ∧
  (((∀ p ∈ chs, okP l.length p) ∧ o = .one (.tup ((leadV chs l).map rowX)) []) ∨ ((∃ p rest, chs = p :: rest ∧ ¬ okP l.length p) ∧ o = .err cPl []))
theorem sc_Method___init__ : FnScope ["self", "name", "bells", "text"] ["self", "name", "bells", "text"] (defScope s_Method___init__) := ⟨rfl, rfl, rfl, by decide +kernel, rfl, by decide +kernel, by decide +kernel⟩
theorem ok_init (F : Fun K "__init__" "Method.__init__" s_Method___init__ f fd) (CM : ClsM K cM) (c_changes_of : Cal P w K mg base T "changes_of" 6 ["text", "bells"] (R_changes_of cRow cPl)) : FnOk P w K mg base (L2.CX P w) 7 f fd ["self", "name", "bells", "text"] (spR T K 4 (R_init cRow cPl cM)) := by
  obtain ⟨f_r, fd_r, o_changes_of, m_changes_of, k_changes_of, b_changes_of⟩ := c_changes_of.ex
  refine F.okX sc_Method___init__ spR_len (fun cdv A outer s H vs Q E hr h => ⟨_, (pss_cons (ps_fld (pv 0) (pv 1) rfl)
      (pss_cons (ps_fld (pv 0) (pv 2) rfl)
      (pss_one (ps_fld (pv 0) (pe_call o_changes_of (hr.mono (by decide)) (by rfl) m_changes_of k_changes_of b_changes_of .nil (passes_call (takes_of (E := E) rfl rfl rfl rfl) (fun _ _ _ _ h => h)) (pa_cons (pv 3) (pa_cons (pv 2) pa_nil))) rfl)))), ?_⟩)
  refine keeps h (by decide) ?_
  rintro ds r o hl ⟨p, nm, n, z, o2, hR, rfl, rfl, ho⟩
  refine sq_fld (j := 0) (ev_var rfl) (ev_var rfl) rfl CM.c CM.n1 (by decide +kernel) (by decide) ?_
  refine sq_fld (j := 0) (ev_var rfl) (ev_var rfl) rfl CM.c CM.n2 (by decide +kernel) (by decide) ?_
  rcases ho with ⟨l, rfl, rfl⟩ | ⟨Ce, rfl, rfl⟩
  · refine st_fld (j := 0) (ev_callC (n := 2) (R := R_changes_of cRow cPl) hR (ea_cons (ev_var rfl) (ea_cons (ev_var rfl) ea_nil)) rfl) (ev_var rfl) rfl CM.c CM.n3 (by decide +kernel) (by decide) ⟨rfl, rfl⟩
  · exact st_exF (ex_callC (n := 2) (R := R_changes_of cRow cPl) hR (ea_cons (ev_var rfl) (ea_cons (ev_var rfl) ea_nil)) rfl) ⟨rfl, rfl⟩
theorem sc_Method_lead : FnScope ["self", "row", "found", "places"] ["self", "row"] (defScope s_Method_lead) := ⟨rfl, rfl, rfl, by decide +kernel, rfl, by decide +kernel, by decide +kernel⟩
theorem ok_lead (F : Fun K "lead" "Method.lead" s_Method_lead f fd) (B : Bi mg) (CM : ClsM K cM) (c_changed : Cal P w K mg base T "changed" 4 ["row", "places"] (R_changed cRow cPl)) : FnOk P w K mg base (L2.CX P w) 5 f fd ["self", "row"] (spR T K 2 (R_lead cPl cM)) := by
  obtain ⟨f_r, fd_r, o_changed, m_changed, k_changed, b_changed⟩ := c_changed.ex
  refine F.okX sc_Method_lead spR_len (fun cdv A outer s H vs Q E hr h => ⟨_, (pss_cons (ps_set (i := 2) sc_Method_lead.nd rfl (by first | exact Or.inl rfl | exact Or.inr rfl) (pe_lst pa_nil))
      (pss_cons (ps_for (passes_of rfl) rfl (pi_tup (pe_fld (pv 0) rfl)) (pg_name (i := 3) sc_Method_lead.nd rfl (by first | exact Or.inl rfl | exact Or.inr rfl)) (pss_cons (ps_set (i := 1) sc_Method_lead.nd rfl (by first | exact Or.inl rfl | exact Or.inr rfl) (pe_call o_changed (hr.mono (by decide)) (by rfl) m_changed k_changed b_changed .nil (passes_call (takes_of (E := E) rfl rfl rfl rfl) (fun _ _ _ _ h => h)) (pa_cons (pv 1) (pa_cons (pv 3) pa_nil))))
      (pss_one (ps_expr (pe_bm PySem.F.plainAttrs_list PySem.F.slot_list_append PySem.F.type_list_append mt_append (pv 2) (pa_cons (pv 1) pa_nil))))))
      (pss_one (ps_ret (pe_tupX (by rfl) B.tuple (pv 2)))))), ?_⟩)
  refine keeps h (by decide) ?_
  rintro ds r o hl ⟨nm, n, chs, l, h400, gl, hp1, rfl, rfl, ho⟩
  refine sq_new (en_lst ea_nil (by simp)) fun q => ?_
  rcases ho with ⟨hok, rfl⟩ | ⟨⟨p, rest, rfl, hbad⟩, rfl⟩
  · refine st_seq (M := fun g r => ∃ x1 x3, g = [some (metD cM nm n chs), x1, some (.ref q), x3] ∧ r = [rl q ((leadV chs l).map rowX)]) (st_forT (ei_T (ev_fld (ev_var rfl) in_f CM.c CM.n3 rfl)) (fun i g r => ∃ x1 x3, (x1 = rowD (headV (chs.take i) l) ∨ x1 = rowX (headV (chs.take i) l)) ∧ g = [some (metD cM nm n chs), some x1, some (.ref q), x3] ∧ r = [rl q ((leadV (chs.take i) l).map rowX)])
      ⟨_, _, Or.inl rfl, rfl, rfl⟩ ?_ ?_) ?_
    · rintro i p g r hi hm ⟨x1, x3, hx, rfl, rfl⟩
      refine ⟨_, _, eg_name, ?_⟩
      have hpl := (head_perm (chs.take i) l).length_eq
      have gh : good (headV (chs.take i) l) := good_of (by have := gl.1; omega) (by have := gl.2.1; omega) (by rw [hpl]; exact (head_perm _ _).trans (good_perm gl))
      have ev1 : ∀ (g : G) (r : Rs), g[1]? = some (some x1) → Ev T K (tVar 1) g r (rowD (headV (chs.take i) l)) r := fun g r h => by
        rcases hx with e | e
        · rw [e] at h; exact ev_var h
        · rw [e] at h; exact ev_varW h
      have et : chs.take (i + 1) = chs.take i ++ [p] := by rw [List.take_succ, hi]; rfl
      refine sq_set (d := rowX (chg p (headV (chs.take i) l))) (ev_callC (n := 2) (R := R_changed cRow cPl) ⟨headV (chs.take i) l, p, by have := gl.2.1; omega, hp1 p hm, rfl, rfl, by rw [if_pos gh, oc_y (by rw [hpl]; exact hok p hm)]⟩ (ea_cons (ev1 _ _ rfl) (ea_cons (ev_var rfl) ea_nil)) rfl) ?_
      refine st_dropE (ev_append 0 (ev_var rfl) rfl (ev_var rfl) rfl (by rw [List.length_map, lead_len, List.length_take]; omega)) ?_
      refine ⟨_, _, Or.inr ?_, rfl, ?_⟩
      · rw [et, head_app]
        rfl
      · rw [et, lead_app, List.map_append]
        rfl
    · rintro g r ⟨x1, x3, _, rfl, rfl⟩
      rw [List.take_length]
      exact ⟨_, _, rfl, rfl⟩
    · rintro g r ⟨x1, x3, rfl, rfl⟩
      refine st_freeze 2 0 rfl rfl ?_
      exact st_ret (ev_tux (ev_tupX (ev_var rfl) vl_f)) ⟨rfl, rfl⟩
  · refine st_seq (M := fun g r => False) (st_forT (ei_T (ev_fld (ev_var rfl) in_f CM.c CM.n3 rfl)) (fun i g r => i = 0 ∧ g = [some (metD cM nm n (p :: rest)), some (rowD l), some (.ref q), none] ∧ r = [rl q []]) ⟨rfl, rfl, rfl⟩ ?_ ?_) (fun _ _ z => z.elim)
    · rintro i p2 g r hi hm ⟨rfl, rfl, rfl⟩
      obtain rfl : p = p2 := by simpa using hi
      refine ⟨_, _, eg_name, ?_⟩
      exact sq_exS (ex_cutA (ex_callC (n := 2) (R := R_changed cRow cPl) ⟨l, p, by have := gl.2.1; omega, hp1 p hm, rfl, rfl, by rw [if_pos gl, oc_n hbad]⟩ (ea_cons (ev_var rfl) (ea_cons (ev_var rfl) ea_nil)) rfl)) ⟨rfl, rfl⟩
    · rintro g r ⟨z, _⟩
      simp at z
theorem lead_at {ps : List (List Int)} {l : List Int} (h : ps ≠ []) : atI ((leadV ps l).map rowX) (-1) = some (rowX (headV ps l)) := atI_last (by
  have e := lead_last (l := l) h
  rw [List.getLast?_eq_getElem?] at e
  rw [List.length_map, List.getElem?_map, e]
  rfl)
def R_head (C : Addr) : Rel := fun ds r o => ∃ (nm : Str) (n : Nat) (chs : List (List Int)), metOk n chs ∧ ds = [metD C nm n chs] ∧ r = [] ∧ o = .one (rowX (headV chs (rng n))) []
theorem okP_len2 {n : Nat} {p : List Int} (h : okP n p) : p.length ≤ 1000 := by
  have := (okP_len h).1
  have := h.1.2
  omega
theorem good_rng {n : Nat} (h : 3 ≤ n ∧ n ≤ 12) : good (rng n) := good_of (by rw [rng_len]; omega) (by rw [rng_len]; omega) (by rw [rng_len])
/-- what lead wants of a method that stands -/
theorem lead_ok {cPl C : Addr} {nm : Str} {n : Nat} {chs : List (List Int)} {l : List Int} (h : metOk n chs) (hl : l.Perm (rng n)) : R_lead cPl C [metD C nm n chs, rowD l] [] (.one (.tup ((leadV chs l).map rowX)) []) := by
  have hn : l.length = n := by rw [hl.length_eq, rng_len]
  have h3 := h.1.1
  have h12 := h.1.2
  exact ⟨nm, n, chs, l, h.2.1.2, good_of (by omega) (by omega) (by rw [hn]; exact hl), fun p hp => okP_len2 (h.2.2 p hp), rfl, rfl, Or.inl ⟨fun p hp => by rw [hn]; exact h.2.2 p hp, rfl⟩⟩
theorem sc_Method_head : FnScope ["self"] ["self"] (defScope s_Method_head) := ⟨rfl, rfl, rfl, by decide +kernel, rfl, by decide +kernel, by decide +kernel⟩
theorem ok_head (F : Fun K "head" "Method.head" s_Method_head f fd) (B : Bi mg) (CM : ClsM K cM) (c_rounds : Cal P w K mg base T "rounds" 1 ["bells"] (R_rounds cRow)) (c_lead : CalM P w K mg base T cM "lead" 5 ["self", "row"] (R_lead cPl cM)) : FnOk P w K mg base (L2.CX P w) 6 f fd ["self"] (spR T K 1 (R_head cM)) := by
  obtain ⟨f_r, fd_r, o_rounds, m_rounds, k_rounds, b_rounds⟩ := c_rounds.ex
  obtain ⟨f_l, fd_l, o_Method_lead, me_Method_lead, b_Method_lead⟩ := c_lead.ex
  have cl_Method := CM.c
  refine F.okX sc_Method_head spR_len (fun cdv A outer s H vs Q E hr h => ⟨_, (pss_one (ps_ret (pe_ix (r := rIxT K) ix_tup (pe_meth (pv 0) cl_Method me_Method_lead o_Method_lead (hr.mono (by decide)) b_Method_lead .nil (passes_call (takes_of (E := E) rfl rfl rfl rfl) (fun _ _ _ _ h => h)) (pa_cons (pe_call o_rounds (hr.mono (by decide)) (by rfl) m_rounds k_rounds b_rounds .nil (passes_call (takes_of (E := E) rfl rfl rfl rfl) (fun _ _ _ _ h => h)) (pa_cons (pe_fld (pv 0) rfl) pa_nil)) pa_nil)) (pe_un un_neg pe_int) (fun _ _ => rfl)))), ?_⟩)
  refine keeps h (by decide) ?_
  rintro ds r o hl ⟨nm, n, chs, hm, rfl, rfl, rfl⟩
  have hne : chs ≠ [] := fun z => by have := hm.2.1.1; rw [z] at this; simp at this
  refine st_ret (ev_op (ev_meth (n := 2) (lead_ok hm (.refl _)) (ev_var rfl) in_f (ea_cons (ev_callC (n := 1) (R := R_rounds cRow) ⟨n, by have := hm.1.2; omega, rfl, rfl, (oc_y hm.1).symm⟩ (ea_cons (ev_fld (ev_var rfl) in_f CM.c CM.n2 rfl) ea_nil) rfl) ea_nil)) (ev_neg ev_int) (od_ixT (lead_at hne))) ⟨rfl, rfl⟩
theorem cB_9 {chs : List (List Int)} {n : Nat} (h : chs.length ≤ 9) : chs.length ≤ 12 ∧ (courseV chs n).length ≤ 45369 := by
  have h1 := crs_len chs n 5040 (rng n)
  have h3 : (courseV chs n).length ≤ 5041 * chs.length := h1
  have h4 : 5041 * chs.length ≤ 5041 * 9 := Nat.mul_le_mul_left _ h
  omega
def R_course (C : Addr) : Rel := fun ds r o => ∃ (nm : Str) (n : Nat) (chs : List (List Int)), metOk n chs ∧ n ≤ 7 ∧ (chs.length ≤ 12 ∧ (courseV chs n).length ≤ 45369) ∧ ds = [metD C nm n chs] ∧ r = [] ∧ o = .one (.tup ((courseV chs n).map rowD)) []
theorem rows_ne (l : List (List Int)) : eqD (.lst (l.map rowD)) (.lst []) = decide (l = []) := by
  have := eq_rows l []
  simpa using this
theorem sc_Method_course : FnScope ["self", "found", "row"] ["self"] (defScope s_Method_course) := ⟨rfl, rfl, rfl, by decide +kernel, rfl, by decide +kernel, by decide +kernel⟩
theorem ok_course (F : Fun K "course" "Method.course" s_Method_course f fd) (B : Bi mg) (CM : ClsM K cM) (c_rounds : Cal P w K mg base T "rounds" 1 ["bells"] (R_rounds cRow)) (c_lead : CalM P w K mg base T cM "lead" 5 ["self", "row"] (R_lead cPl cM)) : FnOk P w K mg base (L2.CX P w) 6 f fd ["self"] (spR T K 1 (R_course cM)) := by
  obtain ⟨f_r, fd_r, o_rounds, m_rounds, k_rounds, b_rounds⟩ := c_rounds.ex
  obtain ⟨f_l, fd_l, o_Method_lead, me_Method_lead, b_Method_lead⟩ := c_lead.ex
  have cl_Method := CM.c
  refine F.okX sc_Method_course spR_len (fun cdv A outer s H vs Q E hr h => ⟨_, (pss_cons (ps_par (i := 1) (j := 2) (by rfl) sc_Method_course.nd rfl rfl (by decide) rfl rfl (pa_cons (pe_lst pa_nil) (pa_cons (pe_call o_rounds (hr.mono (by decide)) (by rfl) m_rounds k_rounds b_rounds .nil (passes_call (takes_of (E := E) rfl rfl rfl rfl) (fun _ _ _ _ h => h)) (pa_cons (pe_fld (pv 0) rfl) pa_nil)) pa_nil)) (by rfl))
      (pss_cons (ps_while (passes_of rfl) (PW.pt (pw_or (pt_cmpR (r := rEqD K) (op_eqD hr.units) (pv 1) (pe_lst pa_nil) (nomark _)) (pw_or1 (pt_cmpR (r := rNeD K) (op_neD hr.units) (pv 2) (pe_call o_rounds (hr.mono (by decide)) (by rfl) m_rounds k_rounds b_rounds .nil (passes_call (takes_of (E := E) rfl rfl rfl rfl) (fun _ _ _ _ h => h)) (pa_cons (pe_fld (pv 0) rfl) pa_nil)) (nomark _))))) (pss_cons (ps_aug (i := 1) sc_Method_course.nd rfl (by first | exact Or.inl rfl | exact Or.inr rfl) (pe_meth (pv 0) cl_Method me_Method_lead o_Method_lead (hr.mono (by decide)) b_Method_lead .nil (passes_call (takes_of (E := E) rfl rfl rfl rfl) (fun _ _ _ _ h => h)) (pa_cons (pv 2) pa_nil)) ExtT.iop_extT)
      (pss_one (ps_set (i := 2) sc_Method_course.nd rfl (by first | exact Or.inl rfl | exact Or.inr rfl) (pe_ix (r := rIxL K) ix_list (pv 1) (pe_un un_neg pe_int) (fun _ _ => rfl))))))
      (pss_one (ps_ret (pe_tupX (by rfl) B.tuple (pv 1)))))), ?_⟩)
  refine keeps h (by decide) ?_
  rintro ds r o hl ⟨nm, n, chs, hm, hn7, hc10, rfl, rfl, rfl⟩
  have hne : chs ≠ [] := fun z => by have := hm.2.1.1; rw [z] at this; simp at this
  have rnd : ∀ {E1 : XK} (g : G) (r : Rs), g[0]? = some (some (metD cM nm n chs)) → Ev T K (tCall (spR T K 1 (R_rounds cRow)) [] E1 (tCons (tFld K (tVar 0) "bells") tNil)) g r (rowD (rng n)) r := fun g r h => ev_callC (n := 1) (R := R_rounds cRow) ⟨n, by omega, rfl, rfl, (oc_y hm.1).symm⟩ (ea_cons (ev_fld (ev_var h) in_f CM.c CM.n2 rfl) ea_nil) rfl
  refine sq_parNE (en_lst ea_nil (by simp)) (fun q => rnd _ _ rfl) fun q => ?_
  refine st_seq (M := fun g r => g = [some (metD cM nm n chs), some (.ref q), some (rowD (rng n))] ∧ r = [rl q ((courseV chs n).map rowD)])
    (st_while (fun m g r => ∃ (done : List (List Int)) (row : List Int), row.Perm (rng n) ∧ g = [some (metD cM nm n chs), some (.ref q), some (rowD row)] ∧ r = [rl q (done.map rowD)] ∧
      ((∃ f, m = f + 1 ∧ done ++ crsF chs n f row = courseV chs n ∧ Rnd chs n f row ∧ (done = [] ∨ row ≠ rng n)) ∨ (m = 0 ∧ done = courseV chs n ∧ row = rng n ∧ done ≠ []))) 5041
      ⟨[], rng n, .refl _, rfl, rfl, Or.inl ⟨5040, rfl, rfl, rnd_0 chs hn7, Or.inl rfl⟩⟩ ?_) ?_
  · rintro m g r ⟨done, row, hp, rfl, rfl, ph⟩
    have t1 : ∀ (r : Rs), r = [rl q (done.map rowD)] → EvT T K (tTest (tOp (rEqD K) (tVar 1) (tLst tNil))) [some (metD cM nm n chs), some (.ref q), some (rowD row)] r (decide (done = [])) r := fun r hr => by
      subst hr
      refine et_of_eq (et_test (ev_op (ev_var rfl) (EvN.ev (en_lst ea_nil (by simp))) (od_eqD (vd_o 0 rfl) vd_f (sh_rows done) rfl))) (rows_ne done)
    have t2 : ∀ {E1 : XK} (r : Rs), EvT T K (tTest (tOp (rNeD K) (tVar 2) (tCall (spR T K 1 (R_rounds cRow)) [] E1 (tCons (tFld K (tVar 0) "bells") tNil)))) [some (metD cM nm n chs), some (.ref q), some (rowD row)] r (decide (row ≠ rng n)) r := fun r =>
      et_of_eq (et_test (ev_op (ev_var rfl) (rnd _ _ rfl) (od_neD vd_f vd_f (sh_row _) (sh_row _)))) (by rw [eq_row]; simp)
    rcases ph with ⟨f, rfl, hcrs, hrnd, hd⟩ | ⟨rfl, rfl, rfl, hd⟩
    · refine ⟨true, [rl q (done.map rowD)], ?_, fun _ => ?_, fun z => by cases z⟩
      · by_cases hz : done = []
        · exact et_or1 (et_of_eq (t1 _ rfl) (by simp [hz]))
        · refine et_or2 (et_of_eq (t1 _ rfl) (by simp [hz])) (et_of_eq (t2 _) ?_)
          rcases hd with e | e
          · exact (hz e).elim
          · simp [e]
      · have hlen : (done ++ leadV chs row).length ≤ 60000 := by
          have h1 := crs_len chs n 5040 (rng n)
          have h2 : (done ++ leadV chs row).length ≤ (courseV chs n).length := by
            rw [← hcrs, List.length_append, List.length_append]
            cases f with
            | zero => rw [crsF]; omega
            | succ f => rw [crsF, List.length_append]; omega
          have h3 := hc10.2
          omega
        refine sq_augD rfl (ev_wT (ev_meth (n := 2) (lead_ok hm hp) (ev_var rfl) in_f (ea_cons (ev_var rfl) ea_nil))) (od_extT 0 rfl (by rw [List.length_map, List.length_map]; rw [List.length_append] at hlen; omega)) ?_
        have e1 : done.map rowD ++ (leadV chs row).map (fun l => D.tup (l.map D.int)) = (done ++ leadV chs row).map rowD := by rw [List.map_append]
        have e2 : atI ((done ++ leadV chs row).map rowD) (-1) = some (rowD (headV chs row)) := atI_last (by
          have e := lead_last (l := row) hne
          have e3 : (done ++ leadV chs row).getLast? = some (headV chs row) := by rw [List.getLast?_append, e]; rfl
          rw [List.getLast?_eq_getElem?] at e3
          rw [List.length_map, List.getElem?_map, e3]
          rfl)
        refine st_set (ev_op (ev_var rfl) (ev_neg ev_int) (od_ixL (vl_o 0 (by show some (rl q _) = _; rw [e1])) e2)) ?_
        by_cases hh : headV chs row = rng n
        · refine ⟨0, by omega, done ++ leadV chs row, headV chs row, (head_perm _ _).trans hp, rfl, by show [rl q _] = _; rw [e1], Or.inr ⟨rfl, ?_, hh, ?_⟩⟩
          · rw [← hcrs]
            cases f with
            | zero => rfl
            | succ f => rw [crsF, if_pos hh, List.append_nil]
          · intro z
            have := lead_len chs row
            have h0 := hm.2.1.1
            rw [List.append_eq_nil_iff] at z
            rw [z.2] at this
            simp at this
            omega
        · cases f with
          | zero => exact (hh (rnd_end hrnd)).elim
          | succ f =>
            refine ⟨f + 1, by omega, done ++ leadV chs row, headV chs row, (head_perm _ _).trans hp, rfl, by show [rl q _] = _; rw [e1], Or.inl ⟨f, rfl, ?_, rnd_next hrnd hh, Or.inr hh⟩⟩
            rw [← hcrs, crsF, if_neg hh, List.append_assoc]
    · exact ⟨false, [rl q ((courseV chs n).map rowD)], et_or2 (et_of_eq (t1 _ rfl) (by simp [hd])) (et_of_eq (t2 _) (by simp)), fun z => (by cases z), fun _ => ⟨rfl, rfl⟩⟩
  · rintro g r ⟨rfl, rfl⟩
    refine st_freeze 1 0 rfl rfl ?_
    exact st_ret (ev_tux (ev_tupX (ev_var rfl) vl_f)) ⟨rfl, rfl⟩
def R_leads (C : Addr) : Rel := fun ds r o => ∃ (nm : Str) (n : Nat) (chs : List (List Int)), metOk n chs ∧ n ≤ 7 ∧ (chs.length ≤ 12 ∧ (courseV chs n).length ≤ 45369) ∧ ds = [metD C nm n chs] ∧ r = [] ∧ o = .one (.int (((courseV chs n).length : Int) / (chs.length : Int))) []
def R_is_true (C : Addr) : Rel := fun ds r o => ∃ (nm : Str) (n : Nat) (chs : List (List Int)), metOk n chs ∧ n ≤ 7 ∧ (chs.length ≤ 12 ∧ (courseV chs n).length ≤ 45369) ∧ ds = [metD C nm n chs] ∧ r = [] ∧ o = .one (.bl (decide ((nubR (courseV chs n)).length = (courseV chs n).length))) []
theorem course_len {chs : List (List Int)} {n : Nat} (h : chs.length ≤ 12 ∧ (courseV chs n).length ≤ 45369) : (courseV chs n).length ≤ 60000 := by
  omega
theorem sc_Method_leads : FnScope ["self"] ["self"] (defScope s_Method_leads) := ⟨rfl, rfl, rfl, by decide +kernel, rfl, by decide +kernel, by decide +kernel⟩
theorem ok_leads (F : Fun K "leads" "Method.leads" s_Method_leads f fd) (B : Bi mg) (CM : ClsM K cM) (c_course : CalM P w K mg base T cM "course" 6 ["self"] (R_course cM)) : FnOk P w K mg base (L2.CX P w) 7 f fd ["self"] (spR T K 1 (R_leads cM)) := by
  obtain ⟨f_l, fd_l, o_Method_course, me_Method_course, b_Method_course⟩ := c_course.ex
  have cl_Method := CM.c
  refine F.okX sc_Method_leads spR_len (fun cdv A outer s H vs Q E hr h => ⟨_, (pss_one (ps_ret (pe_op op_fdiv (pe_callB (r := rLenX K) call_len (by rfl) B.len PySem.boot_len (pa_cons (pe_meth0 (pv 0) cl_Method me_Method_course o_Method_course (hr.mono (by decide)) b_Method_course .nil (passes_call (takes_of (E := E) rfl rfl rfl rfl) (fun _ _ _ _ h => h))) pa_nil)) (pe_callB (r := rLenX K) call_len (by rfl) B.len PySem.boot_len (pa_cons (pe_fld (pv 0) rfl) pa_nil))))), ?_⟩)
  refine keeps h (by decide) ?_
  rintro ds r o hl ⟨nm, n, chs, hm, hn7, hc10, rfl, rfl, rfl⟩
  have h0 := hm.2.1.1
  refine st_ret (ev_op (ev_cb (ea_cons (ev_meth (n := 1) (R := R_course cM) ⟨nm, n, chs, hm, hn7, hc10, rfl, rfl, rfl⟩ (ev_var rfl) in_f ea_nil) ea_nil) (ca_len vs_t)) (ev_cb (ea_cons (ev_fld (ev_var rfl) in_f CM.c CM.n3 rfl) ea_nil) (ca_len vs_t)) (od_I ⟨by rw [List.length_map]; omega, by rw [List.length_map]; omega⟩)) ⟨?_, rfl⟩
  rw [List.length_map, List.length_map]
theorem sc_Method_is_true : FnScope ["self", "rows", "row"] ["self"] (defScope s_Method_is_true) := ⟨rfl, rfl, rfl, by decide +kernel, rfl, by decide +kernel, by decide +kernel⟩
theorem ok_is_true (F : Fun K "is_true" "Method.is_true" s_Method_is_true f fd) (B : Bi mg) (CM : ClsM K cM) (c_course : CalM P w K mg base T cM "course" 6 ["self"] (R_course cM)) : FnOk P w K mg base (L2.CX P w) 7 f fd ["self"] (spR T K 1 (R_is_true cM)) := by
  obtain ⟨f_l, fd_l, o_Method_course, me_Method_course, b_Method_course⟩ := c_course.ex
  have cl_Method := CM.c
  refine F.okX sc_Method_is_true spR_len (fun cdv A outer s H vs Q E hr h => ⟨_, (pss_cons (ps_set (i := 1) sc_Method_is_true.nd rfl (by first | exact Or.inl rfl | exact Or.inr rfl) (pe_meth0 (pv 0) cl_Method me_Method_course o_Method_course (hr.mono (by decide)) b_Method_course .nil (passes_call (takes_of (E := E) rfl rfl rfl rfl) (fun _ _ _ _ h => h))))
      (pss_one (ps_ret (pe_cmpR op_eq (pe_callB (r := RD.rLenR K) RD.cr_lenR (by rfl) B.len PySem.boot_len (pa_cons (CmE.pe_dcR (hu_of hr) (own := [("row", 2)]) rfl sc_Method_is_true.nd (pi_tup (pv 1)) (blkOk_by (N := ["self", "rows", "row"]) (by kernel_rfl)) (fun _ _ _ _ _ => (pg_name (i := 2) sc_Method_is_true.nd rfl (by first | exact Or.inl rfl | exact Or.inr rfl))) (fun _ _ _ _ _ => pts_nil) (fun _ _ _ _ _ => (pv 2)) (fun _ _ _ _ _ => pe_bl)) pa_nil)) (pe_callB (r := rLenX K) call_len (by rfl) B.len PySem.boot_len (pa_cons (pv 1) pa_nil)) (nomark _))))), ?_⟩)
  refine keeps h (by decide) ?_
  rintro ds r o hl ⟨nm, n, chs, hm, hn7, hc10, rfl, rfl, rfl⟩
  have hlen := course_len (n := n) hc10
  refine sq_set (ev_meth (n := 1) (R := R_course cM) ⟨nm, n, chs, hm, hn7, hc10, rfl, rfl, rfl⟩ (ev_var rfl) in_f ea_nil) ?_
  obtain ⟨es, he⟩ := er_dcT (T := T) (K := K) (g := [some (metD cM nm n chs), some (.tup ((courseV chs n).map rowD)), none]) (r := []) (r1 := []) (vs := [2]) (d := .bl true) (tg := gName 2) (tk := tVar 2) (tv := tC (.bl true)) (rows := courseV chs n) (ei_T (tl := tVar 1) (ev_var rfl)) (by omega) fun i row hi => ⟨_, _, eg_name, by simp, ev_var rfl, ev_bl⟩
  refine st_ret (ev_op (ev_lenR (ea_cons he.ev ea_nil) vr_f) (ev_cb (ea_cons (ev_var rfl) ea_nil) (ca_len vs_t)) od_eqI) ⟨?_, rfl⟩
  rw [List.length_map]
  exact congrArg D.bl (decide_eq_decide.mpr ⟨fun z => by omega, fun z => by omega⟩)
/-! ### hunters, paths -/
def huntV (n : Nat) (h : List Int) : List Int := (rng n).filter fun b => decide (h.getD (b - 1).toNat 0 = b)
def R_hunters (C : Addr) : Rel := fun ds r o => ∃ (nm : Str) (n : Nat) (chs : List (List Int)), metOk n chs ∧ ds = [metD C nm n chs] ∧ r = [] ∧ o = .one (rowD (huntV n (headV chs (rng n)))) []
def pathV (chs : List (List Int)) (n : Nat) (b : Int) : List Int := (leadV chs (rng n)).map fun row => ((row.idxOf b : Nat) : Int) + 1
def R_path (cMe C : Addr) : Rel := fun ds r o => ∃ (nm : Str) (n : Nat) (chs : List (List Int)) (b : Int), metOk n chs ∧ ds = [metD C nm n chs, .int b] ∧ r = [] ∧ o = oc (1 ≤ b ∧ b ≤ n) (rowD (pathV chs n b)) cMe
theorem sc_Method_hunters : FnScope ["self", "head", "bell"] ["self"] (defScope s_Method_hunters) := ⟨rfl, rfl, rfl, by decide +kernel, rfl, by decide +kernel, by decide +kernel⟩
theorem ok_hunters (F : Fun K "hunters" "Method.hunters" s_Method_hunters f fd) (hc : fd.code = .ref c) (B : Bi mg) (CM : ClsM K cM) (TBMethod_hunters : GxR.TabB base mg c Pt) (hP : Pt ∈ T.gs) (c_rounds : Cal P w K mg base T "rounds" 1 ["bells"] (R_rounds cRow)) (c_head : CalM P w K mg base T cM "head" 6 ["self"] (R_head cM)) : FnOk P w K mg base (L2.CX P w) 7 f fd ["self"] (spR T K 1 (R_hunters cM)) := by
  obtain ⟨f_r, fd_r, o_rounds, m_rounds, k_rounds, b_rounds⟩ := c_rounds.ex
  obtain ⟨f_l, fd_l, o_Method_head, me_Method_head, b_Method_head⟩ := c_head.ex
  have cl_Method := CM.c
  refine okC F hc sc_Method_hunters spR_len (fun A outer s H vs Q E hr h => ⟨_, (pss_cons (ps_set (i := 1) sc_Method_hunters.nd rfl (by first | exact Or.inl rfl | exact Or.inr rfl) (pe_meth0 (pv 0) cl_Method me_Method_head o_Method_head (hr.mono (by decide)) b_Method_head .nil (passes_call (takes_of (E := E) rfl rfl rfl rfl) (fun _ _ _ _ h => h))))
      (pss_one (ps_ret (GY.pe_tupGenIf hr (by rfl) B.tuple TBMethod_hunters rfl (GX.gs_by (by kernel_rfl)) (pe_call o_rounds (hr.mono (by decide)) (by rfl) m_rounds k_rounds b_rounds .nil (passes_call (takes_of (E := E) rfl rfl rfl rfl) (fun _ _ _ _ h => h)) (pa_cons (pe_fld (pv 0) rfl) pa_nil)) GX.iw_tup (GY.gp_item 0 (by rfl)) (GY.gt_cmp GY.cmp_eq (GY.gp_ixT (GY.gp_var 1 (by rfl) (by rfl)) (GY.gp_bin GY.bin_sub (GY.gp_item 0 (by rfl)) GY.gp_int) (fun _ _ => rfl)) (GY.gp_item 0 (by rfl)) (by rfl)) (fun _ => rfl))))), ?_⟩)
  refine keeps h (by decide) ?_
  rintro ds r o hl ⟨nm, n, chs, hm, rfl, rfl, rfl⟩
  have hp := head_perm chs (rng n)
  have hlen : (headV chs (rng n)).length = n := by rw [hp.length_eq, rng_len]
  have n12 := hm.1.2
  refine sq_set (ev_tux (ev_meth (n := 1) (R := R_head cM) ⟨nm, n, chs, hm, rfl, rfl, rfl⟩ (ev_var rfl) in_f ea_nil)) ?_
  refine st_ret (ev_tux (ev_tupYIf (ds := (rng n).map D.int) (fd := fun d => d) (bd := fun d => match d with | .int i => decide ((headV chs (rng n)).getD (i - 1).toNat 0 = i) | _ => false) hP (ev_callC (n := 1) (R := R_rounds cRow) ⟨n, by omega, rfl, rfl, (oc_y hm.1).symm⟩ (ea_cons (ev_fld (ev_var rfl) in_f CM.c CM.n2 rfl) ea_nil) rfl) iwd_tup (fun d hd => ?_) (fun d hd _ => ey_item 0 rfl) (by rw [List.length_map, rng_len]; omega))) ⟨?_, rfl⟩
  · obtain ⟨i, hi, rfl⟩ := List.mem_map.mp hd
    have hi2 := rng_mem.mp hi
    have hlt : (i - 1).toNat < (headV chs (rng n)).length := by omega
    have q := ey_cmp (T := T) (K := K) (h := fun i j => i == j) (ey_ixT (n := i - 1) (ey_var (g := [some (metD cM nm n chs), some (rowD (headV chs (rng n))), none]) (r := []) (i := 1) (xs := [D.int i]) rfl) (ey_bin (C := fun _ _ => True) (h := fun i j => i - j) (ey_item 0 rfl) ey_int True.intro) (d := .int ((headV chs (rng n)).getD (i - 1).toNat 0)) (atI_of (by omega) (by
      rw [List.getElem?_map, List.getD_eq_getElem?_getD, List.getElem?_eq_getElem hlt]
      rfl))) (ey_item 0 rfl)
    rw [show ((headV chs (rng n)).getD (i - 1).toNat 0 == i) = decide ((headV chs (rng n)).getD (i - 1).toNat 0 = i) from rfl] at q
    exact q
  · show D.tup _ = D.tup _
    rw [List.filter_map, List.map_map]
    rfl
theorem sc_Method_path : FnScope ["self", "bell", "row"] ["self", "bell"] (defScope s_Method_path) := ⟨rfl, rfl, rfl, by decide +kernel, rfl, by decide +kernel, by decide +kernel⟩
theorem ok_path (F : Fun K "path" "Method.path" s_Method_path f fd) (hc : fd.code = .ref c) (B : Bi mg) (CM : ClsM K cM) (TBMethod_path : GxR.TabB base mg c Pt) (hP : Pt ∈ T.gs) (e_MethodError : Er K mg "MethodError" cE) (c_rounds : Cal P w K mg base T "rounds" 1 ["bells"] (R_rounds cRow)) (c_lead : CalM P w K mg base T cM "lead" 5 ["self", "row"] (R_lead cPl cM)) : FnOk P w K mg base (L2.CX P w) 6 f fd ["self", "bell"] (spR T K 2 (R_path cE cM)) := by
  obtain ⟨f_r, fd_r, o_rounds, m_rounds, k_rounds, b_rounds⟩ := c_rounds.ex
  obtain ⟨f_l, fd_l, o_Method_lead, me_Method_lead, b_Method_lead⟩ := c_lead.ex
  have cl_Method := CM.c
  refine okC F hc sc_Method_path spR_len (fun A outer s H vs Q E hr h => ⟨_, (pss_cons (ps_if (pt_not (pt_chain op_le op_le pe_int (pv 1) (pe_fld (pv 0) rfl))) (pss_one (ps_raise rfl (takes_of (E := E) rfl rfl rfl rfl) (pmk_own PySem.F.excBase_ValueError e_MethodError.x e_MethodError.g e_MethodError.k (raises_own e_MethodError.b e_MethodError.t) (by rfl)))) pss_nil)
      (pss_one (ps_ret (pe_tupGen hr (by rfl) B.tuple TBMethod_path rfl (gs_by (by kernel_rfl)) (pe_meth (pv 0) cl_Method me_Method_lead o_Method_lead (hr.mono (by decide)) b_Method_lead .nil (passes_call (takes_of (E := E) rfl rfl rfl rfl) (fun _ _ _ _ h => h)) (pa_cons (pe_call o_rounds (hr.mono (by decide)) (by rfl) m_rounds k_rounds b_rounds .nil (passes_call (takes_of (E := E) rfl rfl rfl rfl) (fun _ _ _ _ h => h)) (pa_cons (pe_fld (pv 0) rfl) pa_nil)) pa_nil)) iw_tup (gp_add (gp_idxT gp_item (gp_var 1 (by rfl) (by rfl)) (fun _ => rfl) (fun _ => rfl) rfl (fun _ => rfl) (fun _ => rfl) (fun _ => rfl)) gp_int) (fun _ => rfl))))), ?_⟩)
  refine keeps h (by decide) ?_
  rintro ds r o hl ⟨nm, n, chs, b, hm, rfl, rfl, rfl⟩
  have n12 := hm.1.2
  refine sq_if (et_not (et_test (ev_chain ev_int (ev_var rfl) od_I0b (fun _ => ev_fld (ev_var rfl) in_f CM.c CM.n2 rfl) (fun _ => od_I0b)))) (fun hb => ?_) (fun hb => ?_)
  · have hn : ¬ (1 ≤ b ∧ b ≤ (n : Int)) := by simp at hb; omega
    refine sq_raise ?_
    rw [oc_n hn]
    exact ⟨rfl, rfl⟩
  · have hn : 1 ≤ b ∧ b ≤ (n : Int) := by simp at hb; omega
    rw [oc_y hn]
    refine sq_next (st_ret (ev_tux (ev_tupGen (ds := (leadV chs (rng n)).map rowX) (fd := fun d => match d with | .tux (ds) => .int (((ds.map fun x => match x with | D.int i => i | _ => 0).idxOf b : Nat) + 1) | _ => .non) hP (ev_meth (n := 2) (lead_ok hm (.refl _)) (ev_var rfl) in_f (ea_cons (ev_callC (n := 1) (R := R_rounds cRow) ⟨n, by omega, rfl, rfl, (oc_y hm.1).symm⟩ (ea_cons (ev_fld (ev_var rfl) in_f CM.c CM.n2 rfl) ea_nil) rfl) ea_nil)) iwd_tup (fun d hd => ?_) (by rw [List.length_map, lead_len]; have := hm.2.1.2; omega))) ⟨?_, rfl⟩)
    · obtain ⟨row, hr, rfl⟩ := List.mem_map.mp hd
      have hm2 : b ∈ row := (lead_perm _ _ row hr).mem_iff.mpr (rng_mem.mpr hn)
      have e : (row.map D.int).map (fun x => match x with | D.int i => i | _ => 0) = row := by rw [List.map_map]; exact List.map_id' row
      show ElD T K _ _ _ _ (D.int ((((row.map D.int).map fun x => match x with | D.int i => i | _ => 0).idxOf b : Nat) + 1))
      rw [e]
      exact el_add (el_idxT el_item (el_var rfl) hm2) el_int
    · show D.tup _ = D.tup _
      unfold pathV
      rw [List.map_map, List.map_map]
      congr 1
      refine List.map_congr_left fun row _ => ?_
      have e : (row.map D.int).map (fun x => match x with | D.int i => i | _ => 0) = row := by rw [List.map_map]; exact List.map_id' row
      show D.int ((((row.map D.int).map fun x => match x with | D.int i => i | _ => 0).idxOf b : Nat) + 1) = _
      rw [e]
      rfl

end
end Bs
namespace Bs
open PySem PySem.Spec PyProof.Rows L2 DL
theorem good_nodup {l : List Int} (h : good l) : l.Nodup := (good_perm h).nodup_iff.mpr (rng_nodupN _)
theorem self_map (a : List Int) : (rng a.length).map (fun i => a.getD (i - 1).toNat 0) = a := by
  apply List.ext_getElem?
  intro i
  unfold rng
  rw [List.map_map, List.getElem?_map]
  by_cases h : i < a.length
  · rw [List.getElem?_range h, List.getElem?_eq_getElem h]
    simp only [Option.map_some, Function.comp]
    rw [show (1 + (i : Int) - 1).toNat = i by omega, List.getD_eq_getElem?_getD, List.getElem?_eq_getElem h]
    rfl
  · rw [List.getElem?_eq_none (by simpa using h), List.getElem?_eq_none (by simpa using h)]
    rfl
theorem idx_map {l : List Int} (h : l.Nodup) : l.map (fun b => ((l.idxOf b : Nat) : Int) + 1) = rng l.length := by
  apply List.ext_getElem?
  intro i
  unfold rng
  rw [List.getElem?_map, List.getElem?_map]
  by_cases hi : i < l.length
  · rw [List.getElem?_range hi, List.getElem?_eq_getElem hi]
    simp only [Option.map_some]
    rw [h.idxOf_getElem i hi]
    congr 1
    omega
  · rw [List.getElem?_eq_none (by simpa using hi), List.getElem?_eq_none (by simpa using hi)]
    rfl
theorem und_len (l : List Int) : (und l).length = l.length := by simp [und, rng_len]
theorem und_good {l : List Int} (h : good l) : good (und l) := by
  refine good_of (by rw [und_len]; exact h.1) (by rw [und_len]; exact h.2.1) ?_
  rw [und_len]
  unfold und
  have p : ((rng l.length).map fun b => ((l.idxOf b : Nat) : Int) + 1).Perm (l.map fun b => ((l.idxOf b : Nat) : Int) + 1) := (good_perm h).symm.map _
  rw [idx_map (good_nodup h)] at p
  exact p
theorem perm_good {a b : List Int} (ha : good a) (hb : good b) (hl : a.length = b.length) : good (perm a b) := by
  have e : (perm a b).length = b.length := by simp [perm]
  refine good_of (by rw [e]; exact hb.1) (by rw [e]; exact hb.2.1) ?_
  rw [e]
  unfold perm
  have p : (b.map fun i => a.getD (i - 1).toNat 0).Perm ((rng b.length).map fun i => a.getD (i - 1).toNat 0) := (good_perm hb).map _
  rw [← hl, self_map] at p
  rw [← hl]
  exact p.trans (good_perm ha)
theorem getD_idx {l : List Int} {b : Int} (h : b ∈ l) : l.getD (l.idxOf b) 0 = b := by
  have hl : l.idxOf b < l.length := List.idxOf_lt_length_iff.mpr h
  rw [List.getD_eq_getElem?_getD, List.getElem?_eq_getElem hl, List.getElem_idxOf hl]
  rfl
theorem perm_und {l : List Int} (h : good l) : perm l (und l) = rng l.length := by
  unfold perm und
  rw [List.map_map]
  conv => rhs; rw [← List.map_id (rng l.length)]
  refine List.map_congr_left fun b hb => ?_
  have hm : b ∈ l := (good_perm h).mem_iff.mpr hb
  show l.getD (((l.idxOf b : Nat) : Int) + 1 - 1).toNat 0 = b
  rw [show (((l.idxOf b : Nat) : Int) + 1 - 1).toNat = l.idxOf b by omega]
  exact getD_idx hm
theorem und_perm {l : List Int} (h : good l) : perm (und l) l = rng l.length := by
  rw [← idx_map (good_nodup h)]
  unfold perm
  refine List.map_congr_left fun i hi => ?_
  have hm := (good_mem h).mp hi
  have hlt : (i - 1).toNat < l.length := by omega
  unfold und
  rw [List.getD_eq_getElem?_getD, List.getElem?_map]
  have e : (rng l.length)[(i - 1).toNat]? = some i := by
    unfold rng
    rw [List.getElem?_map, List.getElem?_range hlt]
    simp
    omega
  rw [e]
  rfl
end Bs
namespace Bs
open PySem PySem.Spec PyProof.Rows L2 DL GX GxR DY







section
variable {P : Program} {w : World} {K : PySem.W.Frag} {mg : Str → Option Value} {base : Heap} {T : Tb} {cRow cPl cM cE : Addr} {f c Pt : Addr} {fd : FuncData} {uS uM : Value}
theorem stepL_rev {α : Type} (xs : List α) : stepL xs none (-1) = xs.reverse := by
  unfold stepL
  have e1 : (Builtin.Slice.sliceAdjust none none (-1) (xs.length : Int)) = ((xs.length : Int) - 1, -1) := rfl
  rw [e1]
  have e2 : Builtin.Slice.slicePlaces ((xs.length : Int) - 1) (-1) (-1) = xs.length := by
    unfold Builtin.Slice.slicePlaces
    rw [if_neg (by decide)]
    by_cases h : (xs.length : Int) - 1 > -1
    · rw [if_pos h]
      show (((xs.length : Int) - 1 - -1 - 1) / 1 + 1).toNat = _
      rw [Int.ediv_one]
      omega
    · rw [if_neg h]
      omega
  show (List.range (Builtin.Slice.slicePlaces ((xs.length : Int) - 1) (-1) (-1))).filterMap (fun (k : Nat) => xs[((xs.length : Int) - 1 + (k : Int) * -1).toNat]?) = _
  rw [e2]
  have key : (List.range xs.length).filterMap (fun (k : Nat) => xs[((xs.length : Int) - 1 + (k : Int) * -1).toNat]?) = (List.range xs.length).filterMap (fun k => xs.reverse[k]?) := by
    have fmc : ∀ {β : Type} (l : List Nat) (f g : Nat → Option β), (∀ k ∈ l, f k = g k) → l.filterMap f = l.filterMap g := fun l f g h => by
      induction l with
      | nil => rfl
      | cons a l ih => rw [List.filterMap_cons, List.filterMap_cons, h a List.mem_cons_self, ih fun k hk => h k (List.mem_cons_of_mem _ hk)]
    refine fmc _ _ _ fun k hk => ?_
    have hk := List.mem_range.mp hk
    rw [List.getElem?_reverse hk]
    congr 1
    omega
  rw [key]
  have gen : ∀ (ys : List α), (List.range ys.length).filterMap (fun k => ys[k]?) = ys := by
    intro ys
    induction ys with
    | nil => rfl
    | cons a ys ih =>
      rw [List.length_cons, List.range_succ_eq_map, List.filterMap_cons]
      simp only [List.getElem?_cons_zero, List.filterMap_map]
      show a :: (List.range ys.length).filterMap (fun k => (a :: ys)[k + 1]?) = _
      simp only [List.getElem?_cons_succ]
      rw [ih]
  have := gen xs.reverse
  rw [List.length_reverse] at this
  exact this
def R_even (C : Addr) : Rel := fun ds r o => ∃ (nm : Str) (n : Nat) (chs : List (List Int)), metOk n chs ∧ ds = [metD C nm n chs] ∧ r = [] ∧ o = .one (.bl (decide (chs.dropLast = chs.dropLast.reverse))) []
theorem sc_Method_is_even_sided : FnScope ["self", "rows"] ["self"] (defScope s_Method_is_even_sided) := ⟨rfl, rfl, rfl, by decide +kernel, rfl, by decide +kernel, by decide +kernel⟩
theorem ok_even (F : Fun K "is_even_sided" "Method.is_even_sided" s_Method_is_even_sided f fd) (B : Bi mg) (CM : ClsM K cM) : FnOk P w K mg base (L2.CX P w) 1 f fd ["self"] (spR T K 1 (R_even cM)) := by
  refine F.okX sc_Method_is_even_sided spR_len (fun cdv A outer s H vs Q E hr h => ⟨_, (pss_cons (ps_set (i := 1) sc_Method_is_even_sided.nd rfl (by first | exact Or.inl rfl | exact Or.inr rfl) (pe_slice (r := rSlA K) sl_tupA (pe_fld (pv 0) rfl) po_none (po_some (pe_op op_sub (pe_callB (r := rLenX K) call_len (by rfl) B.len PySem.boot_len (pa_cons (pe_fld (pv 0) rfl) pa_nil)) pe_int))))
      (pss_one (ps_ret (pe_cmpR (r := rEqD K) (op_eqD hr.units) (pv 1) (pe_stepT (pv 1) po_none (pe_un un_neg pe_int)) (nomark _))))), ?_⟩)
  refine keeps h (by decide) ?_
  rintro ds r o hl ⟨nm, n, chs, hm, rfl, rfl, rfl⟩
  have h0 := hm.2.1.1
  have h4 := hm.2.1.2
  have e1 : cutD (chs.map rowD) none (some (((chs.map rowD).length : Int) - 1)) = chs.dropLast.map rowD := by
    rw [cut_upto (by rw [List.length_map]; omega), List.length_map, ← List.map_take]
    congr 1
    rw [List.dropLast_eq_take]
    congr 1
    omega
  refine sq_set (d := .tup (chs.dropLast.map rowD)) (Ev.of_eq (ev_slT (ev_fld (ev_var rfl) in_f CM.c CM.n3 rfl) eo_none (eo_some (ev_op (ev_cb (ea_cons (ev_fld (ev_var rfl) in_f CM.c CM.n3 rfl) ea_nil) (ca_len vs_t)) ev_int od_I0i))) (by rw [e1])) ?_
  refine st_ret (ev_op (ev_var rfl) (Ev.of_eq (ev_stepT (ev_var rfl) eo_none (ev_neg ev_int) ⟨by decide, by decide⟩ (by rw [stepL_rev, List.length_reverse, List.length_map, List.length_dropLast]; omega)) (d' := .tup (chs.dropLast.reverse.map rowD)) (by rw [stepL_rev, List.map_reverse])) (od_eqD vd_f vd_f (sh_rowsT _) (sh_rowsT _))) ⟨?_, rfl⟩
  rw [eq_rowsT]
/-! ### false heads -/
def fhK (rows : List (List Int)) : List (List Int) := rows.flatMap fun one => rows.map fun other => perm one (und other)
def R_false (cE C : Addr) : Rel := fun ds r o => ∃ (nm : Str) (n : Nat) (chs : List (List Int)), metOk n chs ∧ chs.length ≤ 9 ∧ ds = [metD C nm n chs] ∧ r = [] ∧ o = if n ≤ 8 then .one (.tup ((srtR (nubR (fhK (leadV chs (rng n))))).map rowD)) [] else .err cE []
theorem puts_app : ∀ (a b acc : List (List Int)), putsK acc (a ++ b) = putsK (putsK acc a) b
  | [], _, _ => rfl
  | x :: a, b, acc => puts_app a b (putK acc x)
theorem puts_snoc (a : List (List Int)) (x : List Int) (acc : List (List Int)) : putsK acc (a ++ [x]) = putK (putsK acc a) x := puts_app a [x] acc
theorem puts_le : ∀ (a acc : List (List Int)), (putsK acc a).length ≤ acc.length + a.length
  | [], acc => Nat.le_refl _
  | x :: a, acc => by
    have h1 := puts_le a (putK acc x)
    have h2 := len_putK (ks := acc) (k := x)
    show (putsK (putK acc x) a).length ≤ _
    rw [List.length_cons]
    omega
theorem sc_false_heads : FnScope ["method", "rows", "found", "one", "other"] ["method"] (defScope s_false_heads) := ⟨rfl, rfl, rfl, by decide +kernel, rfl, by decide +kernel, by decide +kernel⟩
theorem ok_false (F : Fun K "false_heads" "false_heads" s_false_heads f fd) (B : Bi mg) (CM : ClsM K cM) (e_MethodError : Er K mg "MethodError" cE) (c_rounds : Cal P w K mg base T "rounds" 1 ["bells"] (R_rounds cRow)) (c_permuted : Cal P w K mg base T "permuted" 3 ["row", "other"] (R_permuted cRow)) (c_undone : Cal P w K mg base T "undone" 3 ["row"] (R_undone cRow))
    (c_lead : CalM P w K mg base T cM "lead" 5 ["self", "row"] (R_lead cPl cM)) : FnOk P w K mg base (L2.CX P w) 6 f fd ["method"] (spR T K 1 (R_false cE cM)) := by
  obtain ⟨f_r, fd_r, o_rounds, m_rounds, k_rounds, b_rounds⟩ := c_rounds.ex
  obtain ⟨f_p, fd_p, o_permuted, m_permuted, k_permuted, b_permuted⟩ := c_permuted.ex
  obtain ⟨f_u, fd_u, o_undone, m_undone, k_undone, b_undone⟩ := c_undone.ex
  obtain ⟨f_l, fd_l, o_Method_lead, me_Method_lead, b_Method_lead⟩ := c_lead.ex
  have cl_Method := CM.c
  refine F.okX sc_false_heads spR_len (fun cdv A outer s H vs Q E hr h => ⟨_, (pss_cons (ps_if (pt_cmpR op_gt (pe_fld (pv 0) rfl) pe_int (nomark _)) (pss_one (ps_raise rfl (takes_of (E := E) rfl rfl rfl rfl) (pmk_own PySem.F.excBase_ValueError e_MethodError.x e_MethodError.g e_MethodError.k (raises_own e_MethodError.b e_MethodError.t) (by rfl)))) pss_nil)
      (pss_cons (ps_par (i := 1) (j := 2) (by rfl) sc_false_heads.nd rfl rfl (by decide) rfl rfl (pa_cons (pe_meth (pv 0) cl_Method me_Method_lead o_Method_lead (hr.mono (by decide)) b_Method_lead .nil (passes_call (takes_of (E := E) rfl rfl rfl rfl) (fun _ _ _ _ h => h)) (pa_cons (pe_call o_rounds (hr.mono (by decide)) (by rfl) m_rounds k_rounds b_rounds .nil (passes_call (takes_of (E := E) rfl rfl rfl rfl) (fun _ _ _ _ h => h)) (pa_cons (pe_fld (pv 0) rfl) pa_nil)) pa_nil)) (pa_cons RD.pe_rnew pa_nil)) (by rfl))
      (pss_cons (ps_for (passes_of rfl) rfl (pi_tup (pv 1)) (pg_name (i := 3) sc_false_heads.nd rfl (by first | exact Or.inl rfl | exact Or.inr rfl)) (pss_one (ps_for (passes_of rfl) rfl (pi_tup (pv 1)) (pg_name (i := 4) sc_false_heads.nd rfl (by first | exact Or.inl rfl | exact Or.inr rfl)) (pss_one (RD.ps_rput (hu_of hr) (pv 2) (pe_call o_permuted (hr.mono (by decide)) (by rfl) m_permuted k_permuted b_permuted .nil (passes_call (takes_of (E := E) rfl rfl rfl rfl) (fun _ _ _ _ h => h)) (pa_cons (pv 3) (pa_cons (pe_call o_undone (hr.mono (by decide)) (by rfl) m_undone k_undone b_undone .nil (passes_call (takes_of (E := E) rfl rfl rfl rfl) (fun _ _ _ _ h => h)) (pa_cons (pv 4) pa_nil)) pa_nil))) pe_bl)))))
      (pss_one (ps_ret (pe_tupX (by rfl) B.tuple (pe_callB (r := RD.rSortedR K) (RD.cr_sortedR rfl (TkO.units70 hr)) (by rfl) B.sorted (by decide +kernel) (pa_cons (pv 2) pa_nil)))))))), ?_⟩)
  refine keeps h (by decide) ?_
  rintro ds r o hl ⟨nm, n, chs, hm, hc10, rfl, rfl, rfl⟩
  have n12 := hm.1.2
  have h0 := hm.2.1.1
  refine sq_if (et_test (ev_op (ev_fld (ev_var rfl) in_f CM.c CM.n2 rfl) ev_int od_I0b)) (fun hb => ?_) (fun hb => sq_next ?_)
  · have hn : ¬ n ≤ 8 := by simp at hb; omega
    refine sq_raise ?_
    rw [if_neg hn]
    exact ⟨rfl, rfl⟩
  have hn : n ≤ 8 := by simp at hb; omega
  rw [if_pos hn]
  generalize hrows : leadV chs (rng n) = rows
  have hgood : ∀ q ∈ rows, good q := fun q hq => by
    rw [← hrows] at hq
    have hp := lead_perm _ _ q hq
    have := hp.length_eq
    rw [rng_len] at this
    exact good_of (by have := hm.1.1; omega) (by omega) (by rw [this]; exact hp)
  have hlq : ∀ q ∈ rows, q.length = n := fun q hq => by
    rw [← hrows] at hq
    have := (lead_perm _ _ q hq).length_eq
    rw [rng_len] at this
    exact this
  have hrl : rows.length ≤ 10 := by rw [← hrows, lead_len]; omega
  have elead : Ev T K (tMeth cM "lead" (spR T K 2 (R_lead cPl cM)) [] E (tVar 0) (tCons (tCall (spR T K 1 (R_rounds cRow)) [] E (tCons (tFld K (tVar 0) "bells") tNil)) tNil)) [some (metD cM nm n chs), none, none, none, none] [] (.tup (rows.map rowX)) [] := by
    rw [← hrows]
    exact ev_meth (n := 2) (lead_ok hm (.refl _)) (ev_var rfl) in_f (ea_cons (ev_callC (n := 1) (R := R_rounds cRow) ⟨n, by omega, rfl, rfl, (oc_y hm.1).symm⟩ (ea_cons (ev_fld (ev_var rfl) in_f CM.c CM.n2 rfl) ea_nil) rfl) ea_nil)
  refine sq_parER elead er_new fun q => ?_
  refine st_seq (M := fun g r => ∃ es x3 x4, g = [some (metD cM nm n chs), some (.tup (rows.map rowX)), some (.ref q), x3, x4] ∧ r = [rr q (nubR (fhK rows)) es])
    (st_forT (ei_T (ev_var rfl)) (fun i g r => ∃ es x3 x4, g = [some (metD cM nm n chs), some (.tup (rows.map rowX)), some (.ref q), x3, x4] ∧ r = [rr q (putsK [] ((rows.take i).flatMap fun one => rows.map fun other => perm one (und other))) es]) ⟨_, _, _, rfl, rfl⟩ ?_ ?_) ?_
  · rintro i one g r hi hmo ⟨es, x3, x4, rfl, rfl⟩
    refine ⟨_, _, eg_name, ?_⟩
    have et : rows.take (i + 1) = rows.take i ++ [one] := by rw [List.take_succ, hi]; rfl
    refine st_forT (ei_T (ev_var rfl)) (fun j g r => ∃ es x4, g = [some (metD cM nm n chs), some (.tup (rows.map rowX)), some (.ref q), some (rowX one), x4] ∧ r = [rr q (putsK (putsK [] ((rows.take i).flatMap fun one => rows.map fun other => perm one (und other))) ((rows.take j).map fun other => perm one (und other))) es]) ⟨_, _, rfl, rfl⟩ ?_ ?_
    · rintro j other g r hj hmt ⟨es, x4, rfl, rfl⟩
      refine ⟨_, _, eg_name, ?_⟩
      have g1 := hgood one hmo
      have g2 := hgood other hmt
      have l1 := hlq one hmo
      have l2 := hlq other hmt
      have et2 : rows.take (j + 1) = rows.take j ++ [other] := by rw [List.take_succ, hj]; rfl
      refine st_rput 0 ev_bl (ev_var rfl) (ev_callC (n := 2) (R := R_permuted cRow) (d := rowD (perm one (und other))) ⟨one, und other, by omega, by rw [und_len]; omega, rfl, rfl, (oc_y ⟨g1, und_good g2, by rw [und_len]; omega⟩).symm⟩ (ea_cons (ev_varW rfl) (ea_cons (ev_callC (n := 1) (R := R_undone cRow) (d := rowD (und other)) ⟨other, _, by omega, rfl, Or.inl rfl, rfl, (oc_y g2).symm⟩ (ea_cons (ev_var rfl) ea_nil) rfl) ea_nil)) rfl) rfl ?_ ?_
      · have h1 := puts_le ((rows.take j).map fun other => perm one (und other)) (putsK [] ((rows.take i).flatMap fun one => rows.map fun other => perm one (und other)))
        have h2 := puts_le ((rows.take i).flatMap fun one => rows.map fun other => perm one (und other)) []
        have h3 : ((rows.take i).flatMap fun one => rows.map fun other => perm one (und other)).length ≤ 10 * 10 := by
          have : ∀ (l : List (List Int)), (l.flatMap fun one => rows.map fun other => perm one (und other)).length = l.length * rows.length := by
            intro l
            induction l with
            | nil => simp
            | cons a l ih => rw [List.flatMap_cons, List.length_append, ih, List.length_map, List.length_cons, Nat.add_mul]; omega
          rw [this]
          exact Nat.mul_le_mul (by rw [List.length_take]; omega) hrl
        simp only [List.length_map, List.length_take, List.length_nil] at h1 h2
        omega
      · refine ⟨putD (putsK (putsK [] ((rows.take i).flatMap fun one => rows.map fun other => perm one (und other))) ((rows.take j).map fun other => perm one (und other))) es (perm one (und other)) (.bl true), some (rowX other), rfl, ?_⟩
        rw [et2, List.map_append]
        show _ = [rr q (putsK _ (_ ++ [perm one (und other)])) _]
        rw [puts_snoc]
        rfl
    · rintro g r ⟨es, x4, rfl, rfl⟩
      refine ⟨es, _, _, rfl, ?_⟩
      rw [et, List.flatMap_append, puts_app, List.take_length]
      simp
  · rintro g r ⟨es, x3, x4, rfl, rfl⟩
    rw [List.take_length]
    exact ⟨_, _, _, rfl, rfl⟩
  · rintro g r ⟨es, x3, x4, rfl, rfl⟩
    exact st_ret (ev_cutA (ev_tux (ev_tupX (EvN.ev (en_sortedR (ea_cons (ev_var rfl) ea_nil) (vr_o 0 rfl))) vl_f))) ⟨rfl, rfl⟩
end
end Bs
namespace Bs
open PySem PySem.Spec PyProof.Rows L2 DL GX GxR DY




section
variable {P : Program} {w : World} {K : PySem.W.Frag} {mg : Str → Option Value} {base : Heap} {T : Tb} {cRow cPl cM cE : Addr} {f c Pt : Addr} {fd : FuncData} {uS uM : Value}
def R_llead : Rel := fun ds r o => ∃ (chs : List (List Int)) (l : List Int), chs.length ≤ 400 ∧ l.length ≤ 12 ∧ (∀ p ∈ chs, okP l.length p) ∧ ds = [rowD l, .lst (chs.map rowD)] ∧ r = [] ∧ o = .one (.lst ((leadV chs l).map rowX)) []
theorem sc__law_lead : FnScope ["row", "changes", "found", "places"] ["row", "changes"] (defScope s__law_lead) := ⟨rfl, rfl, rfl, by decide +kernel, rfl, by decide +kernel, by decide +kernel⟩
theorem ok_llead (F : Fun K "_law_lead" "_law_lead" s__law_lead f fd) (B : Bi mg) (c_lchanged : Cal P w K mg base T "_law_changed" 1 ["row", "places"] R_lchanged) : FnOk P w K mg base (L2.CX P w) 2 f fd ["row", "changes"] (spR T K 2 R_llead) := by
  obtain ⟨f_r, fd_r, o__law_changed, m__law_changed, k__law_changed, b__law_changed⟩ := c_lchanged.ex
  refine F.okX sc__law_lead spR_len (fun cdv A outer s H vs Q E hr h => ⟨_, (pss_cons (ps_set (i := 2) sc__law_lead.nd rfl (by first | exact Or.inl rfl | exact Or.inr rfl) (pe_lst pa_nil))
      (pss_cons (ps_for (passes_of rfl) rfl (pi_list (pv 1)) (pg_name (i := 3) sc__law_lead.nd rfl (by first | exact Or.inl rfl | exact Or.inr rfl)) (pss_cons (ps_set (i := 0) sc__law_lead.nd rfl (by first | exact Or.inl rfl | exact Or.inr rfl) (pe_call o__law_changed (hr.mono (by decide)) (by rfl) m__law_changed k__law_changed b__law_changed .nil (passes_call (takes_of (E := E) rfl rfl rfl rfl) (fun _ _ _ _ h => h)) (pa_cons (pv 0) (pa_cons (pv 3) pa_nil))))
      (pss_one (ps_set (i := 2) sc__law_lead.nd rfl (by first | exact Or.inl rfl | exact Or.inr rfl) (pe_op op_cat (pv 2) (pe_lst (pa_cons (pv 0) pa_nil)))))))
      (pss_one (ps_ret (pv 2))))), ?_⟩)
  refine keeps h (by decide) ?_
  rintro ds r o hl ⟨chs, l, h400, h12, hok, rfl, rfl, rfl⟩
  refine sq_set (EvN.ev (en_lst ea_nil (by simp))) ?_
  refine st_seq (M := fun g r => ∃ x1 x3, g = [x1, some (.lst (chs.map rowD)), some (.lst ((leadV chs l).map rowX)), x3] ∧ r = []) (st_forT (ei_L (ev_var rfl)) (fun i g r => ∃ x1 x3, (x1 = rowD (headV (chs.take i) l) ∨ x1 = rowX (headV (chs.take i) l)) ∧ g = [some x1, some (.lst (chs.map rowD)), some (.lst ((leadV (chs.take i) l).map rowX)), x3] ∧ r = [])
      ⟨_, _, Or.inl rfl, rfl, rfl⟩ ?_ ?_) ?_
  · rintro i p g r hi hm ⟨x1, x3, hx, rfl, rfl⟩
    refine ⟨_, _, eg_name, ?_⟩
    have hpl := (head_perm (chs.take i) l).length_eq
    have ev1 : ∀ (g : G) (r : Rs), g[0]? = some (some x1) → Ev T K (tVar 0) g r (rowD (headV (chs.take i) l)) r := fun g r h => by
      rcases hx with e | e
      · rw [e] at h; exact ev_var h
      · rw [e] at h; exact ev_varW h
    have et : chs.take (i + 1) = chs.take i ++ [p] := by rw [List.take_succ, hi]; rfl
    refine sq_set (d := rowX (chg p (headV (chs.take i) l))) (ev_callC (n := 2) (R := R_lchanged) ⟨headV (chs.take i) l, p, by omega, by rw [hpl]; exact hok p hm, rfl, rfl, rfl⟩ (ea_cons (ev1 _ _ rfl) (ea_cons (ev_var rfl) ea_nil)) rfl) ?_
    refine st_set (EvN.ev (en_cat (ev_var rfl) (EvN.ev (en_lst (ea_cons (ev_var rfl) ea_nil) (by simp))) vl_f vl_f (by rw [List.length_map, lead_len, List.length_take]; simp; omega))) ?_
    refine ⟨rowX (chg p (headV (chs.take i) l)), some (rowD p), Or.inr ?_, ?_, rfl⟩
    · rw [et, head_app]
      rfl
    · rw [et, lead_app, List.map_append]
      rfl
  · rintro g r ⟨x1, x3, _, rfl, rfl⟩
    rw [List.take_length]
    exact ⟨_, _, rfl, rfl⟩
  · rintro g r ⟨x1, x3, rfl, rfl⟩
    exact st_ret (ev_var rfl) ⟨rfl, rfl⟩
def R_lcourse : Rel := fun ds r o => ∃ (n : Nat) (chs : List (List Int)), metOk n chs ∧ n ≤ 7 ∧ (chs.length ≤ 12 ∧ (courseV chs n).length ≤ 45369) ∧ ds = [.int n, .lst (chs.map rowD)] ∧ r = [] ∧ o = .one (.lst ((courseV chs n).map rowD)) []
theorem llead_ok {n : Nat} {chs : List (List Int)} {l : List Int} (h : metOk n chs) (hl : l.Perm (rng n)) : R_llead [rowD l, .lst (chs.map rowD)] [] (.one (.lst ((leadV chs l).map rowX)) []) := by
  have hn : l.length = n := by rw [hl.length_eq, rng_len]
  have h12 := h.1.2
  exact ⟨chs, l, h.2.1.2, by omega, fun p hp => by rw [hn]; exact h.2.2 p hp, rfl, rfl, rfl⟩
theorem last_at {rows : List (List Int)} {q : List Int} (h : rows.getLast? = some q) : atI (rows.map rowD) (((rows.map rowD).length : Int) - 1) = some (rowD q) := by
  have hne : rows ≠ [] := fun z => by rw [z] at h; cases h
  have hp := List.length_pos_iff.mpr hne
  refine atI_of (by rw [List.length_map]; omega) ?_
  rw [List.getLast?_eq_getElem?] at h
  rw [List.length_map, show ((rows.length : Int) - 1).toNat = rows.length - 1 by omega, List.getElem?_map, h]
  rfl
theorem sc__law_course : FnScope ["bells", "changes", "plain", "rows"] ["bells", "changes"] (defScope s__law_course) := ⟨rfl, rfl, rfl, by decide +kernel, rfl, by decide +kernel, by decide +kernel⟩
theorem ok_lcourse (F : Fun K "_law_course" "_law_course" s__law_course f fd) (B : Bi mg) (c_llead : Cal P w K mg base T "_law_lead" 2 ["row", "changes"] R_llead) : FnOk P w K mg base (L2.CX P w) 3 f fd ["bells", "changes"] (spR T K 2 R_lcourse) := by
  obtain ⟨f_r, fd_r, o__law_lead, m__law_lead, k__law_lead, b__law_lead⟩ := c_llead.ex
  refine F.okX sc__law_course spR_len (fun cdv A outer s H vs Q E hr h => ⟨_, (pss_cons (ps_set (i := 2) sc__law_course.nd rfl (by first | exact Or.inl rfl | exact Or.inr rfl) (pe_tupRg rfl (by rfl) B.tuple (prg_2 (by rfl) B.range pe_int (pe_op op_add (pv 0) pe_int))))
      (pss_cons (ps_set (i := 3) sc__law_course.nd rfl (by first | exact Or.inl rfl | exact Or.inr rfl) (pe_call o__law_lead (hr.mono (by decide)) (by rfl) m__law_lead k__law_lead b__law_lead .nil (passes_call (takes_of (E := E) rfl rfl rfl rfl) (fun _ _ _ _ h => h)) (pa_cons (pv 2) (pa_cons (pv 1) pa_nil))))
      (pss_cons (ps_while (passes_of rfl) (pt_cmpR (r := rNeD K) (op_neD hr.units) (pe_ix (r := rIxL K) ix_list (pv 3) (pe_op op_sub (pe_callB (r := rLenX K) call_len (by rfl) B.len PySem.boot_len (pa_cons (pv 3) pa_nil)) pe_int) (fun _ _ => rfl)) (pv 2) (nomark _)) (pss_one (ps_set (i := 3) sc__law_course.nd rfl (by first | exact Or.inl rfl | exact Or.inr rfl) (pe_op op_cat (pv 3) (pe_call o__law_lead (hr.mono (by decide)) (by rfl) m__law_lead k__law_lead b__law_lead .nil (passes_call (takes_of (E := E) rfl rfl rfl rfl) (fun _ _ _ _ h => h)) (pa_cons (pe_ix (r := rIxL K) ix_list (pv 3) (pe_op op_sub (pe_callB (r := rLenX K) call_len (by rfl) B.len PySem.boot_len (pa_cons (pv 3) pa_nil)) pe_int) (fun _ _ => rfl)) (pa_cons (pv 1) pa_nil)))))))
      (pss_one (ps_ret (pv 3)))))), ?_⟩)
  refine keeps h (by decide) ?_
  rintro ds r o hl ⟨n, chs, hm, hn7, hc10, rfl, rfl, rfl⟩
  have hne : chs ≠ [] := fun z => by have := hm.2.1.1; rw [z] at this; simp at this
  have h0 := hm.2.1.1
  refine sq_set (d := rowD (rng n)) (Ev.of_eq (ev_tupRg (er_2 ev_int (ev_op (ev_var rfl) ev_int od_I0i)) (by omega) (by omega)) (congrArg D.tup (rg_rng n))) ?_
  refine sq_set (ev_wL (ev_callC (n := 2) (R := R_llead) (llead_ok hm (.refl _)) (ea_cons (ev_var rfl) (ea_cons (ev_var rfl) ea_nil)) rfl)) ?_
  have fst : ∀ f row, Rnd chs n f row → row.Perm (rng n) → ∀ done, done ++ crsF chs n f row = courseV chs n → (headV chs row = rng n ∧ done ++ leadV chs row = courseV chs n) ∨ (headV chs row ≠ rng n ∧ ∃ f', f = f' + 1 ∧ (done ++ leadV chs row) ++ crsF chs n f' (headV chs row) = courseV chs n ∧ Rnd chs n f' (headV chs row)) := fun f row hr hp done hd => by
    by_cases hh : headV chs row = rng n
    · refine Or.inl ⟨hh, ?_⟩
      rw [← hd]
      cases f with
      | zero => rfl
      | succ f => rw [crsF, if_pos hh, List.append_nil]
    · cases f with
      | zero => exact (hh (rnd_end hr)).elim
      | succ f => exact Or.inr ⟨hh, f, rfl, by rw [← hd, crsF, if_neg hh, List.append_assoc], rnd_next hr hh⟩
  have hlast : ∀ (done : List (List Int)) row, (done ++ leadV chs row).getLast? = some (headV chs row) := fun done row => by rw [List.getLast?_append, lead_last hne]; rfl
  refine st_seq (M := fun g r => g = [some (.int (n : Nat)), some (.lst (chs.map rowD)), some (rowD (rng n)), some (.lst ((courseV chs n).map rowD))] ∧ r = [])
    (st_while (fun m g r => ∃ (done : List (List Int)) (h : List Int), h.Perm (rng n) ∧ done.getLast? = some h ∧ g = [some (.int (n : Nat)), some (.lst (chs.map rowD)), some (rowD (rng n)), some (.lst (done.map rowD))] ∧ r = [] ∧
      ((m = 0 ∧ h = rng n ∧ done = courseV chs n) ∨ (∃ f, m = f + 1 ∧ h ≠ rng n ∧ done ++ crsF chs n f h = courseV chs n ∧ Rnd chs n f h))) ?_ ?_ ?_) ?_
  · exact if headV chs (rng n) = rng n then 0 else 5040
  · refine ⟨leadV chs (rng n), headV chs (rng n), head_perm _ _, lead_last hne, rfl, rfl, ?_⟩
    rcases fst 5040 (rng n) (rnd_0 chs hn7) (.refl _) [] rfl with ⟨h1, h2⟩ | ⟨h1, f', h2, h3, h4⟩
    · rw [if_pos h1]
      exact Or.inl ⟨rfl, h1, h2⟩
    · rw [if_neg h1]
      exact Or.inr ⟨f', h2, h1, h3, h4⟩
  · rintro m g r ⟨done, h, hp, hlst, rfl, rfl, ph⟩
    have ix : ∀ (g : G) (r : Rs), g[3]? = some (some (.lst (done.map rowD))) → Ev T K (tOp (rIxL K) (tVar 3) (tOp (rI0 fun i j => .int (i - j)) (tCB (rLenX K) (tCons (tVar 3) tNil)) (tC (.int 1)))) g r (rowD h) r := fun g r h3 => ev_op (ev_var h3) (ev_op (ev_cb (ea_cons (ev_var h3) ea_nil) (ca_len vs_f)) ev_int od_I0i) (od_ixL vl_f (last_at hlst))
    refine ⟨decide (h ≠ rng n), [], et_of_eq (et_test (ev_op (ix _ _ rfl) (ev_var rfl) (od_neD vd_f vd_f (sh_row _) (sh_row _)))) (by rw [eq_row]; simp), fun hb => ?_, fun hb => ?_⟩
    · have hb : h ≠ rng n := by simpa using hb
      rcases ph with ⟨_, e, _⟩ | ⟨f, rfl, _, hd, hr⟩
      · exact (hb e).elim
      · have hlen : (done ++ leadV chs h).length ≤ 60000 := by
          have h1 := course_len (n := n) hc10
          have h2 : (done ++ leadV chs h).length ≤ (courseV chs n).length := by
            rw [← hd, List.length_append, List.length_append]
            cases f with
            | zero => rw [crsF]; omega
            | succ f => rw [crsF, List.length_append]; omega
          omega
        refine st_set (EvN.ev (en_cat (ev_var rfl) (ev_wL (ev_callC (n := 2) (R := R_llead) (llead_ok hm hp) (ea_cons (ix _ _ rfl) (ea_cons (ev_var rfl) ea_nil)) rfl)) vl_f vl_f (by rw [List.length_map, List.length_map]; rw [List.length_append] at hlen; omega))) ?_
        rcases fst f h hr hp done hd with ⟨h1, h2⟩ | ⟨h1, f', h2, h3, h4⟩
        · exact ⟨0, by omega, done ++ leadV chs h, headV chs h, (head_perm _ _).trans hp, hlast _ _, by rw [List.map_append]; rfl, rfl, Or.inl ⟨rfl, h1, h2⟩⟩
        · exact ⟨f' + 1, by omega, done ++ leadV chs h, headV chs h, (head_perm _ _).trans hp, hlast _ _, by rw [List.map_append]; rfl, rfl, Or.inr ⟨f', rfl, h1, h3, h4⟩⟩
    · have hb : h = rng n := by simpa using hb
      rcases ph with ⟨_, _, e⟩ | ⟨f, _, e, _⟩
      · rw [e]
        exact ⟨rfl, rfl⟩
      · exact (e hb).elim
  · rintro g r ⟨rfl, rfl⟩
    exact st_ret (ev_var rfl) ⟨rfl, rfl⟩
end
end Bs
namespace Bs
open PySem PySem.Spec PyProof.Rows L2 DL GX GxR DY




section
variable {P : Program} {w : World} {K : PySem.W.Frag} {mg : Str → Option Value} {base : Heap} {T : Tb} {cRow cPl cM cE : Addr} {f c Pt : Addr} {fd : FuncData} {uS uM : Value}
/-! ### blows at one place -/
abbrev St2 := Int × Int
def stB (b : Bool) (m : Int) (s : St2) : St2 := let m' := if b = true then m else 1; (m', if m' > s.2 then m' else s.2)
def capI (n m : Int) : Int := if m < n then m else n
def stP (n : Int) (place : Nat) (s : St2) (q : List Int × List Int) : St2 := stB (decide (q.1.getD place 0 = q.2.getD place 0)) (capI n (s.1 + 1)) s
def pairsP (rows : List (List Int)) : List (List Int × List Int) := (rows ++ rows).zip (rows.drop 1 ++ rows ++ rows.take 1)
def blowP (rows : List (List Int)) (place : Nat) (best : Int) : St2 := (pairsP rows).foldl (stP rows.length place) (1, best)
def blowsP (rows : List (List Int)) (n : Nat) : Int := (List.range n).foldl (fun best place => (blowP rows place best).2) 1
def R_blows (C : Addr) : Rel := fun ds r o => ∃ (nm : Str) (n : Nat) (chs : List (List Int)), metOk n chs ∧ n ≤ 7 ∧ (chs.length ≤ 12 ∧ (courseV chs n).length ≤ 45369) ∧ ds = [metD C nm n chs] ∧ r = [] ∧ o = .one (.int (blowsP (courseV chs n) n)) []
abbrev pairD (q : List Int × List Int) : D := .tup [rowD q.1, rowD q.2]
theorem zip_pairs : ∀ (a b : List (List Int)), (a.map rowD).zipWith (fun p q => D.tup [p, q]) (b.map rowD) = (a.zip b).map pairD
  | [], _ => rfl
  | _ :: _, [] => rfl
  | x :: a, y :: b => by
    rw [List.map_cons, List.map_cons, List.zipWith_cons_cons, List.zip_cons_cons, List.map_cons, zip_pairs a b]
theorem ei_eq {g : G} {r r1 : Rs} {ti : TI} {ds ds' : List D} (h : EvI T K ti g r ds r1) (e : ds = ds') : EvI T K ti g r ds' r1 := e ▸ h
theorem crs_perm (ps : List (List Int)) (n : Nat) : ∀ (f : Nat) (row : List Int), row.Perm (rng n) → ∀ q ∈ crsF ps n f row, q.Perm (rng n)
  | 0, row, h, q, hq => (lead_perm ps row q hq).trans h
  | f + 1, row, h, q, hq => by
    rw [crsF] at hq
    rcases List.mem_append.mp hq with z | z
    · exact (lead_perm ps row q z).trans h
    · split at z
      · cases z
      · exact crs_perm ps n f _ ((head_perm ps row).trans h) q z
theorem sc_Method_most_blows : FnScope ["self", "rows", "best", "place", "many", "one", "other"] ["self"] (defScope s_Method_most_blows) := ⟨rfl, rfl, rfl, by decide +kernel, rfl, by decide +kernel, by decide +kernel⟩
theorem ok_blows (F : Fun K "most_blows" "Method.most_blows" s_Method_most_blows f fd) (B : Bi mg) (CM : ClsM K cM) (c_course : CalM P w K mg base T cM "course" 6 ["self"] (R_course cM)) : FnOk P w K mg base (L2.CX P w) 7 f fd ["self"] (spR T K 1 (R_blows cM)) := by
  obtain ⟨f_l, fd_l, o_Method_course, me_Method_course, b_Method_course⟩ := c_course.ex
  have cl_Method := CM.c
  refine F.okX sc_Method_most_blows spR_len (fun cdv A outer s H vs Q E hr h => ⟨_, (pss_cons (ps_set (i := 1) sc_Method_most_blows.nd rfl (by first | exact Or.inl rfl | exact Or.inr rfl) (pe_meth0 (pv 0) cl_Method me_Method_course o_Method_course (hr.mono (by decide)) b_Method_course .nil (passes_call (takes_of (E := E) rfl rfl rfl rfl) (fun _ _ _ _ h => h))))
      (pss_cons (ps_set (i := 2) sc_Method_most_blows.nd rfl (by first | exact Or.inl rfl | exact Or.inr rfl) pe_int)
      (pss_cons (ps_for (passes_of rfl) rfl (pi_range1 rfl B.range (pa_cons (pe_fld (pv 0) rfl) pa_nil)) (pg_name (i := 3) sc_Method_most_blows.nd rfl (by first | exact Or.inl rfl | exact Or.inr rfl)) (pss_cons (ps_set (i := 4) sc_Method_most_blows.nd rfl (by first | exact Or.inl rfl | exact Or.inr rfl) pe_int)
      (pss_one (ps_for (passes_of rfl) rfl (RZ.pi_zipA (by rfl) B.zip (pa_cons (pe_op op_catA (pv 1) (pv 1)) (pa_cons (pe_op op_catA (pe_op op_catA (pe_slice (r := rSlA K) sl_tupA (pv 1) (po_some pe_int) po_none) (pv 1)) (pe_slice (r := rSlA K) sl_tupA (pv 1) po_none (po_some pe_int))) pa_nil))) (pg_tup (by rfl) (pgs_cons (pg_name (i := 5) sc_Method_most_blows.nd rfl (by first | exact Or.inl rfl | exact Or.inr rfl)) (pgs_cons (pg_name (i := 6) sc_Method_most_blows.nd rfl (by first | exact Or.inl rfl | exact Or.inr rfl)) pgs_nil))) (pss_cons (ps_set (i := 4) sc_Method_most_blows.nd rfl (by first | exact Or.inl rfl | exact Or.inr rfl) (pe_ifExp (pt_cmpR op_eq (pe_ix (r := rIxT K) ix_tup (pv 5) (pv 3) (fun _ _ => rfl)) (pe_ix (r := rIxT K) ix_tup (pv 6) (pv 3) (fun _ _ => rfl)) (nomark _)) (pe_callB (call_min2 rfl) (by rfl) B.min (by decide +kernel) (pa_cons (pe_callB (r := rLenX K) call_len (by rfl) B.len PySem.boot_len (pa_cons (pv 1) pa_nil)) (pa_cons (pe_op op_add (pv 4) pe_int) pa_nil))) pe_int))
      (pss_one (ps_set (i := 2) sc_Method_most_blows.nd rfl (by first | exact Or.inl rfl | exact Or.inr rfl) (pe_callB (call_max2 rfl) (by rfl) B.max (by decide +kernel) (pa_cons (pv 2) (pa_cons (pv 4) pa_nil))))))))))
      (pss_one (ps_ret (pv 2)))))), ?_⟩)
  refine keeps h (by decide) ?_
  rintro ds r o hl ⟨nm, n, chs, hm, hn7, hc10, rfl, rfl, rfl⟩
  have hlen := course_len (n := n) hc10
  have hper : ∀ q ∈ courseV chs n, q.length = n := fun q hq => by
    have := (crs_perm chs n 5040 (rng n) (.refl _) q hq).length_eq
    rw [rng_len] at this
    exact this
  have hbound : (courseV chs n).length ≤ 45369 := by
    exact hc10.2
  refine sq_set (ev_meth (n := 1) (R := R_course cM) ⟨nm, n, chs, hm, hn7, hc10, rfl, rfl, rfl⟩ (ev_var rfl) in_f ea_nil) ?_
  generalize courseV chs n = rows at hlen hper hbound ⊢
  refine sq_set ev_int ?_
  refine st_seq (M := fun g r => ∃ x3 x4 x5 x6, g = [some (metD cM nm n chs), some (.tup (rows.map rowD)), some (.int (blowsP rows n)), x3, x4, x5, x6] ∧ r = [])
    (st_for (ei_rg1 (ea_cons (ev_fld (ev_var rfl) in_f CM.c CM.n2 rfl) ea_nil) (by omega)) (fun i g r => ∃ x3 x4 x5 x6, g = [some (metD cM nm n chs), some (.tup (rows.map rowD)), some (.int ((List.range i).foldl (fun best place => (blowP rows place best).2) 1)), x3, x4, x5, x6] ∧ r = []) ⟨_, _, _, _, rfl, rfl⟩ ?_ ?_) ?_
  · rintro i d g r hd ⟨x3, x4, x5, x6, rfl, rfl⟩
    have hi : i < n := by
      have := (List.getElem?_eq_some_iff.mp hd).1
      simpa [rgD] using this
    have hde : d = .int ((i : Nat) : Int) := by
      unfold rgD at hd
      rw [List.getElem?_map, List.getElem?_range (by simpa using hi)] at hd
      simp at hd
      exact hd.symm
    subst hde
    refine ⟨_, _, eg_name, ?_⟩
    rw [List.range_succ, List.foldl_append]
    generalize (List.range i).foldl (fun best place => (blowP rows place best).2) 1 = best
    refine sq_set ev_int ?_
    refine st_forT (as := pairsP rows) (enc := pairD) (ei_eq (ei_zipT (ea_cons (ev_op (ev_var rfl) (ev_var rfl) (od_catT (by rw [List.length_map]; omega))) (ea_cons (ev_op (ev_op (ev_slT (ev_var rfl) (eo_some ev_int) eo_none) (ev_var rfl) (od_catT ?_)) (ev_slT (ev_var rfl) eo_none (eo_some ev_int)) (od_catT ?_)) ea_nil))) ?_)
      (fun j g r => ∃ x5 x6, g = [some (metD cM nm n chs), some (.tup (rows.map rowD)), some (.int (((pairsP rows).take j).foldl (stP rows.length i) (1, best)).2), some (.int ((i : Nat) : Int)), some (.int (((pairsP rows).take j).foldl (stP rows.length i) (1, best)).1), x5, x6] ∧ r = []) ⟨_, _, rfl, rfl⟩ ?_ ?_
    · rw [cut_from (by decide)]
      simp
      omega
    · rw [cut_from (by decide), cut_upto (by decide)]
      simp
      omega
    · rw [cut_from (by decide), cut_upto (by decide), ← List.map_append, ← List.map_drop, ← List.map_append, ← List.map_take, ← List.map_append, zip_pairs]
      rfl
    · rintro j q g r hj hq ⟨x5, x6, rfl, rfl⟩
      have hq1 : q.1.length = n ∧ q.2.length = n := by
        obtain ⟨a, b⟩ := q
        have hm1 := List.of_mem_zip hq
        refine ⟨hper _ ?_, hper _ ?_⟩
        · rcases List.mem_append.mp hm1.1 with z | z <;> exact z
        · rcases List.mem_append.mp hm1.2 with z | z
          · rcases List.mem_append.mp z with z | z
            · exact List.mem_of_mem_drop z
            · exact z
          · exact List.mem_of_mem_take z
      have et : (pairsP rows).take (j + 1) = (pairsP rows).take j ++ [q] := by rw [List.take_succ, hj]; rfl
      refine ⟨_, _, eg_two, ?_⟩
      rw [et, List.foldl_append]
      generalize ((pairsP rows).take j).foldl (stP rows.length i) (1, best) = st
      have ix : ∀ (l : List Int), l.length = n → atI (l.map D.int) ((i : Nat) : Int) = some (.int (l.getD i 0)) := fun l h => atI_of (by omega) (by
        rw [show ((i : Nat) : Int).toNat = i by omega, List.getElem?_map, List.getD_eq_getElem?_getD, List.getElem?_eq_getElem (by omega)]
        rfl)
      refine sq_set (ev_ifI (b := decide (q.1.getD i 0 = q.2.getD i 0)) (m := capI rows.length (st.1 + 1)) (n := 1) (et_test (ev_op (ev_op (ev_var rfl) (ev_var rfl) (od_ixT (ix _ hq1.1))) (ev_op (ev_var rfl) (ev_var rfl) (od_ixT (ix _ hq1.2))) od_eqI)) (fun _ => ?_) (fun _ => ev_int)) ?_
      · exact Ev.of_eq (ev_cb (ea_cons (ev_cb (ea_cons (ev_var rfl) ea_nil) (ca_len vs_t)) (ea_cons (ev_op (ev_var rfl) ev_int od_I0i) ea_nil)) ca_min2) (by rw [List.length_map]; rfl)
      refine st_set (ev_cb (ea_cons (ev_var rfl) (ea_cons (ev_var rfl) ea_nil)) ca_max2) ?_
      exact ⟨_, _, rfl, rfl⟩
    · rintro g r ⟨x5, x6, rfl, rfl⟩
      rw [List.take_length]
      exact ⟨_, _, _, _, rfl, rfl⟩
  · rintro g r ⟨x3, x4, x5, x6, rfl, rfl⟩
    have : (rgD 0 ((n : Nat) : Int).toNat).length = n := by simp [rgD]
    rw [this]
    exact ⟨_, _, _, _, rfl, rfl⟩
  · rintro g r ⟨x3, x4, x5, x6, rfl, rfl⟩
    exact st_ret (ev_var rfl) ⟨rfl, rfl⟩
end
end Bs
namespace Bs
open PySem PySem.Spec PyProof.Rows L2 DL GX GxR DY




section
variable {P : Program} {w : World} {K : PySem.W.Frag} {mg : Str → Option Value} {base : Heap} {T : Tb} {cRow cPl cM cE : Addr} {f c Pt : Addr} {fd : FuncData} {uS uM : Value}
/-! ### the law's blows -/
def colV (rows : List (List Int)) (place : Nat) : List Int := rows.map fun q => q.getD place 0
def stL (q : Int × Int) (s : St2) : St2 := stB (decide (q.1 = q.2)) (s.1 + 1) s
def blowL (c : List Int) (best : Int) : Int := if c = List.replicate c.length (c.getD 0 0) then (c.length : Int) else (((c ++ c).zip ((c ++ c).drop 1)).foldl (fun s q => stL q s) (1, best)).2
def blowsL (rows : List (List Int)) (n : Nat) : Int := (List.range n).foldl (fun best place => blowL (colV rows place) best) 1
def R_lblows : Rel := fun ds r o => ∃ (n : Nat) (rows : List (List Int)), n ≤ 7 ∧ rows ≠ [] ∧ (∀ q ∈ rows, q.length = n) ∧ rows.length ≤ 45369 ∧ ds = [.lst (rows.map rowD), .int n] ∧ r = [] ∧ o = .one (.int (blowsL rows n)) []
abbrev iiD (q : Int × Int) : D := .tup [.int q.1, .int q.2]
theorem zip_ints : ∀ (a b : List Int), (a.map D.int).zipWith (fun p q => D.tup [p, q]) (b.map D.int) = (a.zip b).map iiD
  | [], _ => rfl
  | _ :: _, [] => rfl
  | x :: a, y :: b => by
    rw [List.map_cons, List.map_cons, List.zipWith_cons_cons, List.zip_cons_cons, List.map_cons, zip_ints a b]
theorem et_eq {t : TT} {g : G} {r r1 : Rs} {b b' : Bool} (h : EvT T K t g r b r1) (e : b = b') : EvT T K t g r b' r1 := e ▸ h
theorem rep_flat (x : D) : ∀ n : Nat, (List.replicate n [x]).flatten = List.replicate n x
  | 0 => rfl
  | n + 1 => by rw [List.replicate_succ, List.flatten_cons, rep_flat x n]; rfl
theorem sc__law_blows : FnScope ["rows", "bells", "best", "place", "column", "row", "round_again", "many", "one", "other"] ["rows", "bells"] (defScope s__law_blows) := ⟨rfl, rfl, rfl, by decide +kernel, rfl, by decide +kernel, by decide +kernel⟩
theorem ok_lblows (F : Fun K "_law_blows" "_law_blows" s__law_blows f fd) (B : Bi mg) : FnOk P w K mg base (L2.CX P w) 8 f fd ["rows", "bells"] (spR T K 2 R_lblows) := by
  refine F.okX sc__law_blows spR_len (fun cdv A outer s H vs Q E hr h => ⟨_, (pss_cons (ps_set (i := 2) sc__law_blows.nd rfl (by first | exact Or.inl rfl | exact Or.inr rfl) pe_int)
      (pss_cons (ps_for (passes_of rfl) rfl (pi_range1 rfl B.range (pa_cons (pv 1) pa_nil)) (pg_name (i := 3) sc__law_blows.nd rfl (by first | exact Or.inl rfl | exact Or.inr rfl)) (pss_cons (ps_setLc (i := 4) (own := [("row", 5)]) rfl sc__law_blows.nd rfl rfl (sw_true rfl rfl rfl (by decide +kernel)) (pi_list (pv 0)) (blkOk_by (N := ["rows", "bells", "best", "place", "column", "row", "round_again", "many", "one", "other"]) (by kernel_rfl)) (fun _ _ _ _ _ => (pg_name (i := 5) sc__law_blows.nd rfl (by first | exact Or.inl rfl | exact Or.inr rfl))) (fun _ _ _ _ _ => pts_nil) (fun _ _ _ _ _ => (pe_ix (r := rIxT K) ix_tup (pv 5) (pv 3) (fun _ _ => rfl))))
      (pss_one (ps_if (pt_cmpR (r := rEqD K) (op_eqD hr.units) (pv 4) (pe_op op_rep (pe_lst (pa_cons (pe_ix (r := rIxL K) ix_list (pv 4) pe_int (fun _ _ => rfl)) pa_nil)) (pe_callB (r := rLenX K) call_len (by rfl) B.len PySem.boot_len (pa_cons (pv 4) pa_nil))) (nomark _)) (pss_one (ps_set (i := 2) sc__law_blows.nd rfl (by first | exact Or.inl rfl | exact Or.inr rfl) (pe_callB (r := rLenX K) call_len (by rfl) B.len PySem.boot_len (pa_cons (pv 4) pa_nil)))) (pss_cons (ps_set (i := 6) sc__law_blows.nd rfl (by first | exact Or.inl rfl | exact Or.inr rfl) (pe_op op_cat (pv 4) (pv 4)))
      (pss_cons (ps_set (i := 7) sc__law_blows.nd rfl (by first | exact Or.inl rfl | exact Or.inr rfl) pe_int)
      (pss_one (ps_for (passes_of rfl) rfl (RZ.pi_zipA (by rfl) B.zip (pa_cons (pv 6) (pa_cons (pe_slice (r := rSlL K) sl_list (pv 6) (po_some pe_int) po_none) pa_nil))) (pg_tup (by rfl) (pgs_cons (pg_name (i := 8) sc__law_blows.nd rfl (by first | exact Or.inl rfl | exact Or.inr rfl)) (pgs_cons (pg_name (i := 9) sc__law_blows.nd rfl (by first | exact Or.inl rfl | exact Or.inr rfl)) pgs_nil))) (pss_cons (ps_set (i := 7) sc__law_blows.nd rfl (by first | exact Or.inl rfl | exact Or.inr rfl) (pe_ifExp (pt_cmpR op_eq (pv 8) (pv 9) (nomark _)) (pe_op op_add (pv 7) pe_int) pe_int))
      (pss_one (ps_set (i := 2) sc__law_blows.nd rfl (by first | exact Or.inl rfl | exact Or.inr rfl) (pe_callB (call_max2 rfl) (by rfl) B.max (by decide +kernel) (pa_cons (pv 2) (pa_cons (pv 7) pa_nil))))))))))))))
      (pss_one (ps_ret (pv 2))))), ?_⟩)
  refine keeps h (by decide) ?_
  rintro ds r o hl ⟨n, rows, hn7, hne, hlen, hbound, rfl, rfl, rfl⟩
  refine sq_set ev_int ?_
  refine st_seq (M := fun g r => ∃ x3 x4 x5 x6 x7 x8 x9, g = [some (.lst (rows.map rowD)), some (.int n), some (.int (blowsL rows n)), x3, x4, x5, x6, x7, x8, x9] ∧ r = [])
    (st_for (ei_rg1 (ea_cons (ev_var rfl) ea_nil) (by omega)) (fun i g r => ∃ x3 x4 x5 x6 x7 x8 x9, g = [some (.lst (rows.map rowD)), some (.int n), some (.int ((List.range i).foldl (fun best place => blowL (colV rows place) best) 1)), x3, x4, x5, x6, x7, x8, x9] ∧ r = []) ⟨_, _, _, _, _, _, _, rfl, rfl⟩ ?_ ?_) ?_
  · rintro i d g r hd ⟨x3, x4, x5, x6, x7, x8, x9, rfl, rfl⟩
    have hi : i < n := by
      have := (List.getElem?_eq_some_iff.mp hd).1
      simpa [rgD] using this
    have hde : d = .int ((i : Nat) : Int) := by
      unfold rgD at hd
      rw [List.getElem?_map, List.getElem?_range (by simpa using hi)] at hd
      simp at hd
      exact hd.symm
    subst hde
    refine ⟨_, _, eg_name, ?_⟩
    rw [List.range_succ, List.foldl_append]
    generalize (List.range i).foldl (fun best place => blowL (colV rows place) best) 1 = best
    have ix : ∀ (l : List Int), l.length = n → atI (l.map D.int) ((i : Nat) : Int) = some (.int (l.getD i 0)) := fun l h => atI_of (by omega) (by
      rw [show ((i : Nat) : Int).toNat = i by omega, List.getElem?_map, List.getD_eq_getElem?_getD, List.getElem?_eq_getElem (by omega)]
      rfl)
    refine sq_set (en_lcMT (as := rows) (enc := rowD) (fe := fun q => q.getD i 0) D.int (ei_lst (ev_var rfl)) (by omega) fun q hq => ⟨_, _, eg_name, by decide, ev_op (ev_var rfl) (ev_var rfl) (od_ixT (ix _ (hlen q hq)))⟩).ev ?_
    show StD T K E _ [_, _, _, _, some (.lst ((colV rows i).map D.int)), _, _, _, _, _] _ _
    have hcl : (colV rows i).length = rows.length := List.length_map _
    have hpos : 0 < rows.length := List.length_pos_iff.mpr hne
    rw [show List.foldl (fun best place => blowL (colV rows place) best) best [i] = blowL (colV rows i) best from rfl]
    generalize colV rows i = c at hcl ⊢
    have hc0 : atI (c.map D.int) 0 = some (.int (c.getD 0 0)) := atI_of (by omega) (by
      cases c with
      | nil => simp at hcl; omega
      | cons x t => rfl)
    have e0 : ∀ g : G, g[4]? = some (some (.lst (c.map D.int))) → Ev T K (tOp (rIxL K) (tVar 4) (tC (V.int 0))) g [] (.int (c.getD 0 0)) [] := fun g hg => ev_op (ev_var hg) ev_int (od_ixL vl_f hc0)
    have e1 : ∀ g : G, g[4]? = some (some (.lst (c.map D.int))) → EvN T K (tLst (tCons (tOp (rIxL K) (tVar 4) (tC (V.int 0))) tNil)) g [] [.int (c.getD 0 0)] [] := fun g hg => en_lst (ea_cons (e0 g hg) ea_nil) (by simp)
    have e2 : ∀ g : G, g[4]? = some (some (.lst (c.map D.int))) → EvN T K (tOp rRep (tLst (tCons (tOp (rIxL K) (tVar 4) (tC (V.int 0))) tNil)) (tCB (rLenX K) (tCons (tVar 4) tNil))) g [] (List.replicate ((c.map D.int).length : Int).toNat [.int (c.getD 0 0)]).flatten [] := fun g hg => en_rep (e1 g hg).ev (ev_cb (ea_cons (ev_var hg) ea_nil) (ca_len vs_f)) vl_f (by rw [List.length_map]; omega) (by
      rw [List.length_map, hcl]
      show 1 * _ ≤ _
      omega)
    have ef : (List.replicate ((c.map D.int).length : Int).toNat [D.int (c.getD 0 0)]).flatten = (List.replicate c.length (c.getD 0 0)).map D.int := by
      rw [rep_flat, List.length_map, List.map_replicate]
      rfl
    rw [ef] at e2
    refine st_if (b := decide (c = List.replicate c.length (c.getD 0 0))) (et_eq (et_test (ev_op (ev_var rfl) (e2 _ rfl).ev (od_eqD vd_f vd_f (sh_il c) (sh_il _)))) (eq_il _ _)) (fun hb => ?_) fun hb => ?_
    · refine st_set (ev_cb (ea_cons (ev_var rfl) ea_nil) (ca_len vs_f)) ?_
      have eb : blowL c best = ((c.map D.int).length : Int) := by
        unfold blowL
        rw [if_pos (of_decide_eq_true hb), List.length_map]
      rw [eb]
      exact ⟨_, _, _, _, _, _, _, rfl, rfl⟩
    · have hb2 := of_decide_eq_false hb
      have hcat : ∀ a b : List Int, a.map D.int ++ b.map D.int = (a ++ b).map D.int := fun a b => (List.map_append).symm
      refine sq_set (en_cat (ev_var rfl) (ev_var rfl) vl_f vl_f (by rw [List.length_map]; omega)).ev ?_
      refine sq_set ev_int ?_
      refine st_forT (as := (c ++ c).zip ((c ++ c).drop 1)) (enc := iiD) (ei_eq (ei_zipL (ea_cons (ev_var rfl) (ea_cons (en_slL (ev_var rfl) (eo_some ev_int) eo_none vl_f).ev ea_nil))) ?_)
        (fun j g r => ∃ x5 x6 x8 x9, g = [some (.lst (rows.map rowD)), some (.int n), some (.int ((((c ++ c).zip ((c ++ c).drop 1)).take j).foldl (fun s q => stL q s) (1, best)).2), some (.int ((i : Nat) : Int)), some (.lst (c.map D.int)), x5, x6, some (.int ((((c ++ c).zip ((c ++ c).drop 1)).take j).foldl (fun s q => stL q s) (1, best)).1), x8, x9] ∧ r = []) ⟨_, _, _, _, rfl, rfl⟩ ?_ ?_
      · rw [cut_from (by decide), hcat, ← List.map_drop, zip_ints]
        rfl
      · rintro j q g r hj hq ⟨x5, x6, x8, x9, rfl, rfl⟩
        have et : ((c ++ c).zip ((c ++ c).drop 1)).take (j + 1) = ((c ++ c).zip ((c ++ c).drop 1)).take j ++ [q] := by rw [List.take_succ, hj]; rfl
        refine ⟨_, _, eg_two, ?_⟩
        rw [et, List.foldl_append]
        generalize (((c ++ c).zip ((c ++ c).drop 1)).take j).foldl (fun s q => stL q s) (1, best) = st
        refine sq_set (ev_ifI (b := decide (q.1 = q.2)) (m := st.1 + 1) (n := 1) (et_test (ev_op (ev_var rfl) (ev_var rfl) od_eqI)) (fun _ => ev_op (ev_var rfl) ev_int od_I0i) (fun _ => ev_int)) ?_
        refine st_set (ev_cb (ea_cons (ev_var rfl) (ea_cons (ev_var rfl) ea_nil)) ca_max2) ?_
        exact ⟨_, _, _, _, rfl, rfl⟩
      · rintro g r ⟨x5, x6, x8, x9, rfl, rfl⟩
        rw [List.take_length]
        have eb : blowL c best = (((c ++ c).zip ((c ++ c).drop 1)).foldl (fun s q => stL q s) (1, best)).2 := by
          unfold blowL
          rw [if_neg hb2]
        rw [eb]
        exact ⟨_, _, _, _, _, _, _, rfl, rfl⟩
  · rintro g r ⟨x3, x4, x5, x6, x7, x8, x9, rfl, rfl⟩
    have : (rgD 0 ((n : Nat) : Int).toNat).length = n := by simp [rgD]
    rw [this]
    exact ⟨_, _, _, _, _, _, _, rfl, rfl⟩
  · rintro g r ⟨x3, x4, x5, x6, x7, x8, x9, rfl, rfl⟩
    exact st_ret (ev_var rfl) ⟨rfl, rfl⟩
end
end Bs
namespace Bs
/-! ### both ways of counting blows agree -/
def fL (s : St2) (b : Bool) : St2 := stB b (s.1 + 1) s
def fP (n : Int) (s : St2) (b : Bool) : St2 := stB b (capI n (s.1 + 1)) s
def mF (m : Int) (b : Bool) : Int := if b = true then m + 1 else 1
theorem fL_t (m x : Int) : fL (m, x) true = (m + 1, if m + 1 > x then m + 1 else x) := rfl
theorem fL_f (m x : Int) : fL (m, x) false = (1, if (1 : Int) > x then 1 else x) := rfl
theorem fP_t (n m x : Int) : fP n (m, x) true = (capI n (m + 1), if capI n (m + 1) > x then capI n (m + 1) else x) := rfl
theorem fP_f (n m x : Int) : fP n (m, x) false = (1, if (1 : Int) > x then 1 else x) := rfl
theorem mx1 (m x : Int) : x ≤ (if m > x then m else x) := by split <;> omega
theorem mx2 (m x : Int) : m ≤ (if m > x then m else x) := by split <;> omega
theorem mx3 (m x : Int) (h : m ≤ x) : (if m > x then m else x) = x := by split <;> omega
theorem mx4 (m x n : Int) (h : m ≤ n) (h2 : x ≤ n) : (if m > x then m else x) ≤ n := by split <;> omega
theorem cap_idle (n : Int) : ∀ (L : List Bool) (s : St2), 1 ≤ s.1 → s.1 + L.length ≤ n → L.foldl (fP n) s = L.foldl fL s
  | [], _, _, _ => rfl
  | b :: L, (m, x), h1, h2 => by
    rw [List.length_cons] at h2
    have h1' : 1 ≤ m := h1
    have h2' : m + ((L.length + 1 : Nat) : Int) ≤ n := h2
    have e : fP n (m, x) b = fL (m, x) b := by
      cases b with
      | false => rfl
      | true =>
        have : capI n (m + 1) = m + 1 := by unfold capI; split <;> omega
        rw [fP_t, fL_t, this]
    rw [List.foldl_cons, List.foldl_cons, e]
    refine cap_idle n L _ ?_ ?_
    · cases b
      · exact Int.le_refl 1
      · show 1 ≤ m + 1; omega
    · cases b
      · show (1 : Int) + L.length ≤ n; omega
      · show m + 1 + L.length ≤ n; omega
theorem fL_fst : ∀ (L : List Bool) (s : St2), (L.foldl fL s).1 = L.foldl mF s.1
  | [], _ => rfl
  | b :: L, s => by
    rw [List.foldl_cons, List.foldl_cons, fL_fst L]
    rfl
theorem fL_up : ∀ (L : List Bool) (s : St2), s.2 ≤ (L.foldl fL s).2
  | [], _ => Int.le_refl _
  | b :: L, (m, x) => by
    rw [List.foldl_cons]
    refine Int.le_trans ?_ (fL_up L _)
    cases b
    · exact mx1 1 x
    · exact mx1 (m + 1) x
theorem fL_le : ∀ (L : List Bool) (s : St2), s.1 ≤ s.2 → (L.foldl fL s).1 ≤ (L.foldl fL s).2
  | [], _, h => h
  | b :: L, (m, x), h => by
    rw [List.foldl_cons]
    refine fL_le L _ ?_
    cases b
    · exact mx2 1 x
    · exact mx2 (m + 1) x
theorem fP_le (n : Int) (hn : 1 ≤ n) : ∀ (L : List Bool) (s : St2), s.2 ≤ n → (L.foldl (fP n) s).2 ≤ n
  | [], _, h => h
  | b :: L, (m, x), h => by
    rw [List.foldl_cons]
    refine fP_le n hn L _ ?_
    have h' : x ≤ n := h
    have hc : capI n (m + 1) ≤ n := by unfold capI; split <;> omega
    cases b
    · exact mx4 1 x n hn h'
    · exact mx4 _ x n hc h'
theorem fP_all (n : Int) (hn : 1 ≤ n) : ∀ (k : Nat) (m x : Int), 1 ≤ m → m ≤ n → m ≤ x → x ≤ n → n ≤ m + k → ((List.replicate k true).foldl (fP n) (m, x)).2 = n
  | 0, m, x, h1, h2, h3, h4, h5 => by
    show x = n
    have : n ≤ m := by simpa using h5
    omega
  | k + 1, m, x, h1, h2, h3, h4, h5 => by
    rw [List.replicate_succ, List.foldl_cons, fP_t]
    have hc : capI n (m + 1) = m + 1 ∧ m + 1 ≤ n ∨ capI n (m + 1) = n ∧ n < m + 1 + 1 := by unfold capI; split <;> omega
    refine fP_all n hn k _ _ ?_ ?_ ?_ ?_ ?_
    · omega
    · omega
    · split <;> omega
    · split <;> omega
    · omega
theorem split_false : ∀ (L : List Bool), false ∈ L → ∃ A B, L = A ++ false :: B
  | [], h => nomatch h
  | false :: L, _ => ⟨[], L, rfl⟩
  | true :: L, h => by
    obtain ⟨A, B, e⟩ := split_false L (by simpa using h)
    exact ⟨true :: A, B, by rw [e]; rfl⟩
theorem idle2 (E : List Bool) (hf : false ∈ E) (best : Int) : (E ++ E).foldl (fP E.length) (1, best) = (E ++ E).foldl fL (1, best) := by
  obtain ⟨A, B, e⟩ := split_false E hf
  have hl : E.length = A.length + (B.length + 1) := by rw [e, List.length_append, List.length_cons]
  have e2 : E ++ E = A ++ (false :: ((B ++ A) ++ (false :: B))) := by
    rw [e]
    simp
  rw [e2, List.foldl_append, List.foldl_append, cap_idle _ A _ (Int.le_refl 1) (by show (1 : Int) + A.length ≤ _; omega)]
  generalize A.foldl fL (1, best) = s
  obtain ⟨m, x⟩ := s
  rw [List.foldl_cons, List.foldl_cons, fP_f, fL_f, List.foldl_append (l := B ++ A), List.foldl_append (l := B ++ A), cap_idle _ (B ++ A) _ (Int.le_refl 1) (by rw [List.length_append]; show (1 : Int) + _ ≤ _; omega)]
  generalize (B ++ A).foldl fL _ = s
  obtain ⟨m, x⟩ := s
  rw [List.foldl_cons, List.foldl_cons, fP_f, fL_f, cap_idle _ B _ (Int.le_refl 1) (by show (1 : Int) + _ ≤ _; omega)]
theorem last_idle (E : List Bool) (hf : false ∈ E) (best : Int) (hb : 1 ≤ best) : ((E ++ E).foldl fL (1, best)).2 = ((E ++ E.dropLast).foldl fL (1, best)).2 := by
  obtain ⟨A, B, e⟩ := split_false E hf
  have hne : E ≠ [] := by rw [e]; simp
  have ed : E ++ E = (E ++ E.dropLast) ++ [E.getLast hne] := by rw [List.append_assoc, List.dropLast_concat_getLast]
  have hm : ∀ m : Int, E.foldl mF m = B.foldl mF 1 := fun m => by
    rw [e, List.foldl_append, List.foldl_cons]
    rfl
  have h1 : ((E ++ E).foldl fL (1, best)).1 = (E.foldl fL (1, best)).1 := by
    rw [List.foldl_append, fL_fst, hm, fL_fst, hm]
  have h2 : (E.foldl fL (1, best)).1 ≤ (E.foldl fL (1, best)).2 := fL_le E _ hb
  have h3 : (E.foldl fL (1, best)).2 ≤ ((E ++ E.dropLast).foldl fL (1, best)).2 := by
    rw [List.foldl_append]
    exact fL_up _ _
  rw [ed, List.foldl_append] at h1 ⊢
  have hge : best ≤ (E.foldl fL (1, best)).2 := fL_up E (1, best)
  generalize (E ++ E.dropLast).foldl fL (1, best) = s at h1 h3 ⊢
  obtain ⟨m, x⟩ := s
  have h3' : (E.foldl fL (1, best)).2 ≤ x := h3
  cases hl : E.getLast hne with
  | false =>
    exact mx3 1 x (Int.le_trans hb (Int.le_trans hge h3'))
  | true =>
    rw [hl] at h1
    have h1' : m + 1 = (E.foldl fL (1, best)).1 := h1
    exact mx3 (m + 1) x (by omega)
/-! ### one column -/
def cyc (c : List Int) : List Bool := (c.zip (c.drop 1 ++ c.take 1)).map fun q => decide (q.1 = q.2)
theorem cyc_len (c : List Int) : (cyc c).length = c.length := by
  unfold cyc
  rw [List.length_map, List.length_zip, List.length_append, List.length_drop, List.length_take]
  omega
theorem prog_pairs (rows : List (List Int)) (p : Nat) : (pairsP rows).map (fun q => decide (q.1.getD p 0 = q.2.getD p 0)) = cyc (colV rows p) ++ cyc (colV rows p) := by
  have h : (pairsP rows).map (fun q => decide (q.1.getD p 0 = q.2.getD p 0)) = ((colV rows p ++ colV rows p).zip ((colV rows p).drop 1 ++ colV rows p ++ (colV rows p).take 1)).map fun q => decide (q.1 = q.2) := by
    unfold pairsP colV
    rw [← List.map_append, ← List.map_drop, ← List.map_append, ← List.map_take, ← List.map_append, List.zip_map, List.map_map]
    rfl
  rw [h]
  generalize colV rows p = c
  cases c with
  | nil => rfl
  | cons x t =>
    unfold cyc
    rw [← List.map_append, ← List.zip_append (by simp)]
    congr 2
    simp
theorem law_pairs (c : List Int) : ((c ++ c).zip ((c ++ c).drop 1)).map (fun q => decide (q.1 = q.2)) = cyc c ++ (cyc c).dropLast := by
  cases c with
  | nil => rfl
  | cons x t =>
    have hd : (cyc (x :: t)).dropLast = ((x :: t).zip t).map fun q => decide (q.1 = q.2) := by
      unfold cyc
      rw [← List.map_dropLast]
      congr 1
      have hx : ∀ (a : List Int) (b : List Int) (y : Int), a.length = b.length + 1 → (a.zip (b ++ [y])).dropLast = a.zip b := by
        intro a
        induction a with
        | nil => intro b y h; simp at h
        | cons z a ih =>
          intro b y h
          cases b with
          | nil =>
            have : a = [] := by simpa using h
            subst this
            rfl
          | cons w b =>
            have hh : a.length = b.length + 1 := by simpa using h
            rw [List.cons_append, List.zip_cons_cons, List.zip_cons_cons, List.dropLast_cons_of_ne_nil, ih b y hh]
            intro hn
            have := congrArg List.length hn
            rw [List.length_zip, List.length_append, hh] at this
            simp at this
      exact hx (x :: t) t x (by simp)
    rw [hd]
    unfold cyc
    rw [← List.map_append, ← List.zip_append (by simp)]
    congr 2
    simp
theorem cyc_all : ∀ (x : Int) (t : List Int) (y : Int), (∀ b ∈ ((x :: t).zip (t ++ [y])).map (fun q => decide (q.1 = q.2)), b = true) ↔ (y = x ∧ t = List.replicate t.length x)
  | x, [], y => by
    show (∀ b ∈ [decide (x = y)], b = true) ↔ _
    simp
    exact eq_comm
  | x, z :: t, y => by
    rw [List.cons_append, List.zip_cons_cons, List.map_cons]
    have ih := cyc_all z t y
    simp only [List.mem_cons, forall_eq_or_imp, decide_eq_true_eq]
    rw [ih, List.length_cons, List.replicate_succ, List.cons.injEq]
    constructor
    · rintro ⟨e, e1, e2⟩
      subst e
      exact ⟨e1, rfl, e2⟩
    · rintro ⟨e1, e2, e3⟩
      subst e2
      exact ⟨rfl, e1, e3⟩
theorem blow_eq (rows : List (List Int)) (p : Nat) (best : Int) (hne : rows ≠ []) (hb : 1 ≤ best) (hb2 : best ≤ rows.length) : (blowP rows p best).2 = blowL (colV rows p) best ∧ 1 ≤ (blowP rows p best).2 ∧ (blowP rows p best).2 ≤ rows.length := by
  have hcl : (colV rows p).length = rows.length := List.length_map _
  have hE : (cyc (colV rows p)).length = rows.length := (cyc_len _).trans hcl
  have hpos : 0 < rows.length := List.length_pos_iff.mpr hne
  have hP : blowP rows p best = (cyc (colV rows p) ++ cyc (colV rows p)).foldl (fP rows.length) (1, best) := by
    rw [← prog_pairs, List.foldl_map]
    rfl
  have hL : ((colV rows p ++ colV rows p).zip ((colV rows p ++ colV rows p).drop 1)).foldl (fun s q => stL q s) (1, best) = (cyc (colV rows p) ++ (cyc (colV rows p)).dropLast).foldl fL (1, best) := by
    rw [← law_pairs, List.foldl_map]
    rfl
  unfold blowL
  rw [hP, hL]
  have hall : (∀ b ∈ cyc (colV rows p), b = true) ↔ colV rows p = List.replicate (colV rows p).length ((colV rows p).getD 0 0) := by
    generalize colV rows p = c at hcl
    cases c with
    | nil => simp at hcl; omega
    | cons x t =>
      refine (cyc_all x t x).trans ?_
      rw [List.length_cons, List.replicate_succ]
      show _ ↔ x :: t = x :: List.replicate t.length x
      rw [List.cons.injEq]
  refine ⟨?_, ?_, fP_le _ (by omega) _ _ hb2⟩
  · by_cases h : false ∈ cyc (colV rows p)
    · rw [if_neg fun e => by simpa using hall.mpr e _ h]
      have := idle2 _ h best
      rw [hE] at this
      rw [this, last_idle _ h best hb]
    · have ht : ∀ b ∈ cyc (colV rows p), b = true := fun b hm => by
        cases b
        · exact absurd hm h
        · rfl
      rw [if_pos (hall.mp ht), hcl]
      have er : cyc (colV rows p) = List.replicate rows.length true := by
        rw [← hE]
        exact List.eq_replicate_iff.mpr ⟨rfl, ht⟩
      rw [er, List.replicate_append_replicate]
      exact fP_all _ (by omega) _ _ _ (Int.le_refl 1) (by omega) hb hb2 (by omega)
  · by_cases h : false ∈ cyc (colV rows p)
    · have := idle2 _ h best
      rw [hE] at this
      rw [this]
      exact Int.le_trans hb (fL_up _ _)
    · have ht : ∀ b ∈ cyc (colV rows p), b = true := fun b hm => by
        cases b
        · exact absurd hm h
        · rfl
      have er : cyc (colV rows p) = List.replicate rows.length true := by
        rw [← hE]
        exact List.eq_replicate_iff.mpr ⟨rfl, ht⟩
      rw [er, List.replicate_append_replicate, fP_all _ (by omega) _ _ _ (Int.le_refl 1) (by omega) hb hb2 (by omega)]
      omega
theorem blows_eq (rows : List (List Int)) (hne : rows ≠ []) : ∀ n : Nat, blowsP rows n = blowsL rows n ∧ 1 ≤ blowsP rows n ∧ blowsP rows n ≤ rows.length
  | 0 => ⟨rfl, Int.le_refl 1, by
    have hpos : 0 < rows.length := List.length_pos_iff.mpr hne
    show (1 : Int) ≤ _
    omega⟩
  | n + 1 => by
    obtain ⟨e, h1, h2⟩ := blows_eq rows hne n
    have a1 : blowsP rows (n + 1) = (blowP rows n (blowsP rows n)).2 := by
      unfold blowsP
      rw [List.range_succ, List.foldl_append]
      rfl
    have a2 : blowsL rows (n + 1) = blowL (colV rows n) (blowsL rows n) := by
      unfold blowsL
      rw [List.range_succ, List.foldl_append]
      rfl
    rw [a1, a2, ← e]
    exact blow_eq rows n _ hne h1 h2
end Bs
/-! the data layer: {n: v for n in numbers}, and how many -/
namespace DL
open PySem PySem.Spec PyProof.Rows L2 GxR GY DY
abbrev kI : Int → Key := Sum.inl
abbrev rLenD : List V → Hp → VK → Prop := fun xs H Q => ∃ a kvs, xs = [V.ref a] ∧ H a = some (.dK kvs) ∧ Q (.int kvs.length) H
section
variable {T : Tb} {K : PySem.W.Frag} {E : XK} {g g' : G} {r r' r1 r2 r3 : Rs} {ta tb tc te tk tv : TE} {t : TT} {x y z d : D} {ds es xs : List D} {tas : TA} {O O' : Out} {P : Addr} {tg : TG} {ti : TI} {vs : List Nat}
def nubStep (acc : List Int) (n : Int) : List Int := if n ∈ acc then acc else acc ++ [n]
def nubI (ns : List Int) : List Int := ns.foldl nubStep []
theorem nubStep_len (acc : List Int) (n : Int) : (nubStep acc n).length ≤ acc.length + 1 := by
  unfold nubStep
  split
  · omega
  · simp
theorem keys_put (kvs : List (Key × V)) (acc : List Int) (n : Int) (v : V) (h : kvs.map Prod.fst = acc.map kI) : (L2.putK kvs (kI n) v).map Prod.fst = (nubStep acc n).map kI := by
  have ha : (kvs.any fun kv => decide (kv.1 = kI n)) = decide (n ∈ acc) := by
    have e : (kvs.any fun kv => decide (kv.1 = kI n)) = ((kvs.map Prod.fst).any fun k => decide (k = kI n)) := by rw [List.any_map]; rfl
    rw [e, h, List.any_map]
    clear h e
    induction acc with
    | nil => rfl
    | cons a t ih =>
      rw [List.any_cons, ih]
      show (decide ((Sum.inl a : Key) = Sum.inl n) || decide (n ∈ t)) = _
      rw [key_ll]
      by_cases e : a = n
      · subst e; simp
      · have : ¬ n = a := fun z => e z.symm
        simp [e, this]
  unfold L2.putK nubStep
  rw [ha]
  by_cases hm : n ∈ acc
  · rw [if_pos (decide_eq_true hm), if_pos hm, List.map_map, ← h]
    apply List.map_congr_left
    rintro ⟨k, u⟩ _
    show (if k = kI n then (k, v) else (k, u)).1 = k
    split <;> rfl
  · rw [if_neg (by simp [hm]), if_neg hm, List.map_append, List.map_append, h]
    rfl
theorem vals_kput (kvs : List (Key × V)) (k : Key) (v : V) (Hs : Hp) (h : ∀ e ∈ kvs, DR K Hs e.2 d) (hv : DR K Hs v d) : ∀ e ∈ L2.putK kvs k v, DR K Hs e.2 d := by
  unfold L2.putK
  split
  · intro e he
    obtain ⟨a, ha, rfl⟩ := List.mem_map.mp he
    show DR K Hs (if a.1 = k then (a.1, v) else a).2 d
    split
    · exact hv
    · exact h a ha
  · intro e he
    rcases List.mem_append.mp he with z | z
    · exact h e z
    · rw [List.mem_singleton.mp z]
      exact hv
/-- a dict of one's own whose values are all d -/
def rkd (p : Addr) (ns : List Int) (d : D) : Res where
  fp := [p]
  ok := fun K Hs H => ∃ kvs : List (Key × V), H p = some (.dK kvs) ∧ kvs.map Prod.fst = ns.map kI ∧ ∀ e ∈ kvs, DR K Hs e.2 d
  st := fun T K Hs Hs' H H' e k ⟨xs, h1, h2, h3⟩ => ⟨xs, by rw [k p (by simp)]; exact h1, h2, fun x hx => DR.mono e _ (h3 x hx)⟩
theorem ev_dcK {ns : List Int} (h : EvI T K ti g r (ns.map D.int) r1) (hl : ns.length ≤ 100000)
    (hs : ∀ n ∈ ns, ∃ g2 is, EvG T K tg is (.int n) (wipeG g vs) g2 ∧ (∀ i ∈ is, i ∈ vs) ∧ Ev T K tk g2 r1 (.int n) r1 ∧ Ev T K tv g2 r1 d r1) : Ev T K (tDc ti tg tYes tk tv vs) g r (.dk ((nubI ns).map kI) (List.replicate (nubI ns).length d)) r1 := by
  refine fun rf Hs H σ s Q q => h rf Hs H σ s _ fun J Hs1 H1 e s1 st => fun D hD => ?_
  have s1' : SR T K Hs1 (upd H1 D (.dK [])) σ g (r1 ++ (rkd D [] d :: rf)) :=
      (s1.own (o := .dK []) hD True.intro (x := rkd D [] d) rfl ⟨[], upd_same, rfl, fun _ z => nomatch z⟩).perm List.perm_middle.symm
  refine ⟨fun i m H' => m = ns.length - i ∧ i ≤ ns.length ∧ ∃ Hs', Ext T Hs1 Hs' ∧ SR T K Hs' H' σ g (r1 ++ (rkd D ((ns.take i).foldl nubStep []) d :: rf)) ∧ ((ns.take i).foldl nubStep []).length ≤ i, ⟨_, rfl, Nat.zero_le _, Hs1, Ext.refl _, s1', Nat.le_refl _⟩, ?_⟩
  rintro i m H' ⟨rfl, hi, Hs', e', s', la⟩
  obtain ⟨a1, a2⟩ := st i Hs' H' e' s'.ex
  rw [List.length_map] at a1
  by_cases hlt : i < ns.length
  · have hn : ns[i]? = some ns[i] := List.getElem?_eq_getElem hlt
    obtain ⟨b1, b2⟩ := a2 (.int ns[i]) (by rw [List.getElem?_map, hn]; rfl)
    have et : ns.take (i + 1) = ns.take i ++ [ns[i]] := by rw [List.take_succ, hn]; rfl
    refine Or.inr ⟨b1, fun H2 => ∃ Hs2, Ext T Hs1 Hs2 ∧ SR T K Hs2 H2 σ g (r1 ++ (rkd D ((ns.take (i + 1)).foldl nubStep []) d :: rf)), fun H2 ⟨Hs2, c1, c2⟩ => ⟨ns.length - (i + 1), by omega, rfl, hlt, Hs2, c1, c2, ?_⟩, fun v H2 y => ?_⟩
    · rw [et, List.foldl_append]
      exact Nat.le_trans (nubStep_len _ _) (by omega)
    obtain ⟨Hs2, c1, c2, c3⟩ := b2 v H2 y
    obtain ⟨g2, is, k1, k0, k2, k3⟩ := hs ns[i] (List.getElem_mem hlt)
    have sw := (c3 _ _ _ s').wipe vs
    refine k1 Hs2 H2 _ _ v sw c2 _ fun σ3 s3 hw => ⟨?_, ?_⟩
    · rw [hw vs k0]
      exact wipe_wipe vs σ
    · show tk _ _ _
      refine k2 _ Hs2 H2 σ3 s3 _ fun v2 Hs4 H4 e4 s5 rv => k3 _ Hs4 H4 σ3 s5 _ fun v3 Hs5 H5 e5 s6 rv3 => ?_
      have hm : rkd D ((ns.take i).foldl nubStep []) d ∈ r1 ++ (rkd D ((ns.take i).foldl nubStep []) d :: rf) := by simp
      cases rv
      obtain ⟨kvs, q1, q2, q3⟩ := s6.rs _ hm
      have hj : (r1 ++ (rkd D ((ns.take i).foldl nubStep []) d :: rf))[r1.length]? = some (rkd D ((ns.take i).foldl nubStep []) d) := by simp
      have hxl : kvs.length = ((ns.take i).foldl nubStep []).length := by
        have := congrArg List.length q2
        simpa using this
      have eA : Ext T Hs Hs5 := (((e.trans e').trans c1).trans e4).trans e5
      refine ⟨kvs, kI ns[i], rfl, q1, by rw [sizeLine_eq]; omega, Hs5, ((e'.trans c1).trans e4).trans e5, ?_⟩
      have s7 := s6.mut (y := rkd D (nubStep ((ns.take i).foldl nubStep []) ns[i]) d) (o := .dK (L2.putK kvs (kI ns[i]) v3)) hj rfl rfl True.intro ⟨_, upd_same, keys_put _ _ _ _ q2, vals_kput _ _ _ _ q3 rv3⟩
      rw [List.set_append_right _ _ (Nat.le_refl _)] at s7
      rw [et, List.foldl_append]
      simp only [Nat.sub_self, List.set_cons_zero] at s7
      exact s.back eA s7
  · have he : i = ns.length := by omega
    subst he
    rw [List.take_length] at s'
    have s2 := s'.perm (List.perm_middle (l₁ := r1) (l₂ := rf))
    obtain ⟨kvs, h1, h2, h3⟩ := s2.rs _ List.mem_cons_self
    obtain ⟨s3, e3⟩ := s2.freeze (j := 0) (x := rkd D _ d) rfl rfl h1
    refine Or.inl ⟨a1 (by omega), q _ _ _ ((e.trans e').trans e3) s3 (.dk upd_same h2 ?_)⟩
    have hl2 : kvs.length = (nubI ns).length := by
      have := congrArg List.length h2
      simpa [nubI] using this
    have : ∀ (l : List (Key × V)), (∀ x ∈ l, DR K (upd Hs' D (.dK kvs)) x.2 d) → DRs K (upd Hs' D (.dK kvs)) (l.map Prod.snd) (List.replicate l.length d) := by
      intro l
      induction l with
      | nil => intro _; exact .nil
      | cons x t ih => intro hx; exact .cons (hx x List.mem_cons_self) (ih fun y hy => hx y (List.mem_cons_of_mem _ hy))
    have := this kvs fun x hx => DR.mono e3 _ (h3 x hx)
    rw [hl2] at this
    exact this
theorem ev_lenD {ks : List Key} (h : EvA T K tas g r [.dk ks ds] r1) : Ev T K (tCB rLenD tas) g r (.int ((ks.length : Nat) : Int)) r1 := fun rf Hs H σ s Q q => h rf Hs H σ s _ fun vs Hs1 H1 e s1 rvs => by
  obtain ⟨v, rfl, rv⟩ := rvs.one
  cases rv with
  | @dk a kvs _ _ h1 h2 h3 =>
    refine ⟨a, kvs, rfl, s1.ex.keep _ _ h1 (fun _ z => nomatch z), ?_⟩
    have hk : kvs.length = ks.length := by rw [← h2, List.length_map]
    rw [hk]
    exact q _ _ _ e s1 (.int _)
end
end DL
namespace Bs
open PySem PySem.Spec PyProof.Rows L2 DL GX GxR DY






section
variable {P : Program} {w : World} {K : PySem.W.Frag} {mg : Str → Option Value} {base : Heap} {T : Tb} {cRow cPl cM cE : Addr} {f c Pt : Addr} {fd : FuncData} {uS uM : Value}
/-! ### kinds -/
def cntV (ns : List Int) (v : Int) : Int := ((ns.filter fun p => decide (p = v)).length : Nat)
def cntsV (n : Nat) (path : List Int) : List Int := (rng n).map fun v => cntV path v
def kindV (n : Nat) (h path : List Int) : Str :=
  if h = [] then "principle" else if (1 : Int) ∉ h then "other" else if cntsV n path = List.replicate n 2 then "plain" else if (nubI (cntsV n path)).length = 1 then "treble dodging" else "other"
def R_kind (C : Addr) : Rel := fun ds r o => ∃ (nm : Str) (n : Nat) (chs : List (List Int)), metOk n chs ∧ n ≤ 7 ∧ (chs.length ≤ 12 ∧ (courseV chs n).length ≤ 45369) ∧ ds = [metD C nm n chs] ∧ r = [] ∧ o = .one (.str (kindV n (huntV n (headV chs (rng n))) (pathV chs n 1))) []
theorem sc_Method_kind : FnScope ["self", "hunters", "places", "counts", "place", "one", "many"] ["self"] (defScope s_Method_kind) := ⟨rfl, rfl, rfl, by decide +kernel, rfl, by decide +kernel, by decide +kernel⟩
theorem ok_kind (F : Fun K "kind" "Method.kind" s_Method_kind f fd) (B : Bi mg) (CM : ClsM K cM) (c_hunters : CalM P w K mg base T cM "hunters" 7 ["self"] (R_hunters cM)) (c_path : CalM P w K mg base T cM "path" 6 ["self", "bell"] (R_path cE cM)) : FnOk P w K mg base (L2.CX P w) 8 f fd ["self"] (spR T K 1 (R_kind cM)) := by
  obtain ⟨f_h, fd_h, o_Method_hunters, me_Method_hunters, b_Method_hunters⟩ := c_hunters.ex
  obtain ⟨f_l, fd_l, o_Method_path, me_Method_path, b_Method_path⟩ := c_path.ex
  have cl_Method := CM.c
  refine F.okX sc_Method_kind spR_len (fun cdv A outer s H vs Q E hr h => ⟨_, (pss_cons (ps_set (i := 1) sc_Method_kind.nd rfl (by first | exact Or.inl rfl | exact Or.inr rfl) (pe_meth0 (pv 0) cl_Method me_Method_hunters o_Method_hunters (hr.mono (by decide)) b_Method_hunters .nil (passes_call (takes_of (E := E) rfl rfl rfl rfl) (fun _ _ _ _ h => h))))
      (pss_cons (ps_if (pt_cmpR (r := rEqD K) (op_eqD hr.units) (pv 1) (pe_tup pa_nil) (nomark _)) (pss_one (ps_ret pe_str)) pss_nil)
      (pss_cons (ps_if (pt_cmpR (r := rIn K true) op_notIn_seq pe_int (pv 1) (by rfl)) (pss_one (ps_ret pe_str)) pss_nil)
      (pss_cons (ps_set (i := 2) sc_Method_kind.nd rfl (by first | exact Or.inl rfl | exact Or.inr rfl) (pe_meth (pv 0) cl_Method me_Method_path o_Method_path (hr.mono (by decide)) b_Method_path .nil (passes_call (takes_of (E := E) rfl rfl rfl rfl) (fun _ _ _ _ h => h)) (pa_cons pe_int pa_nil)))
      (pss_cons (ps_setLc (i := 3) (own := [("one", 5)]) rfl sc_Method_kind.nd rfl rfl (sw_true rfl rfl rfl (by decide +kernel)) (pi_range2 rfl B.range (pa_cons pe_int (pa_cons (pe_op op_add (pe_fld (pv 0) rfl) pe_int) pa_nil))) (blkOk_by (N := ["self", "hunters", "places", "counts", "place", "one", "many"]) (by kernel_rfl)) (fun _ _ _ _ _ => (pg_name (i := 5) sc_Method_kind.nd rfl (by first | exact Or.inl rfl | exact Or.inr rfl))) (fun _ _ _ _ _ => pts_nil) (fun _ _ _ _ _ => (pe_callB (r := rLenX K) call_len (by rfl) B.len PySem.boot_len (pa_cons (pe_lc (own := [("place", 4)]) rfl sc_Method_kind.nd (show PI _ _ _ (iTup K _) from pi_tup (pv 2)) (blkOk_by (N := ["self", "hunters", "places", "counts", "place", "one", "many"]) (by kernel_rfl)) (fun _ _ _ _ _ => (pg_name (i := 4) sc_Method_kind.nd rfl (by first | exact Or.inl rfl | exact Or.inr rfl))) (fun _ _ _ _ _ => (pts_one (pt_cmpR op_eq (pv 4) (pv 5) (nomark _)))) (fun _ _ _ _ _ => pe_int)) pa_nil))))
      (pss_cons (ps_if (pt_cmpR (r := rEqD K) (op_eqD hr.units) (pv 3) (pe_op op_rep (pe_lst (pa_cons pe_int pa_nil)) (pe_fld (pv 0) rfl)) (nomark _)) (pss_one (ps_ret pe_str)) pss_nil)
      (pss_one (ps_ret (pe_ifExp (pt_cmpR op_eq (pe_callB (r := rLenD) call_lenD (by rfl) B.len PySem.boot_len (pa_cons (pe_dc (own := [("many", 6)]) rfl sc_Method_kind.nd (pi_list (pv 3)) (blkOk_by (N := ["self", "hunters", "places", "counts", "place", "one", "many"]) (by kernel_rfl)) (fun _ _ _ _ _ => (pg_name (i := 6) sc_Method_kind.nd rfl (by first | exact Or.inl rfl | exact Or.inr rfl))) (fun _ _ _ _ _ => pts_nil) (fun _ _ _ _ _ => (pv 6)) (fun _ _ _ _ _ => pe_bl)) pa_nil)) pe_int (nomark _)) pe_str pe_str))))))))), ?_⟩)
  refine keeps h (by decide) ?_
  rintro ds r o hl ⟨nm, n, chs, hm, hn7, hc10, rfl, rfl, rfl⟩
  have hh : R_hunters cM [metD cM nm n chs] [] (.one (rowD (huntV n (headV chs (rng n)))) []) := ⟨nm, n, chs, hm, rfl, rfl, rfl⟩
  have n3 := hm.1.1
  have hpl : (pathV chs n 1).length ≤ 12 := by
    unfold pathV
    rw [List.length_map, lead_len]
    exact hc10.1
  have hp : R_path cE cM [metD cM nm n chs, .int 1] [] (.one (rowD (pathV chs n 1)) []) := ⟨nm, n, chs, 1, hm, rfl, rfl, (oc_y (by omega)).symm⟩
  generalize huntV n (headV chs (rng n)) = hs at hh ⊢
  generalize pathV chs n 1 = path at hp hpl ⊢
  refine sq_set (ev_meth (n := 1) hh (ev_var rfl) in_f ea_nil) ?_
  refine sq_if (et_eq (et_test (ev_op (ev_var rfl) (ev_tup ea_nil (by simp)) (od_eqD vd_f (vd_f (d := .tup [])) (sh_row hs) (sh_row [])))) (eq_row hs [])) (fun hb => ?_) fun hb => sq_next ?_
  · refine sq_ret (st_ret ev_str ⟨?_, rfl⟩)
    unfold kindV
    rw [if_pos (of_decide_eq_true hb)]
  have hb1 := of_decide_eq_false hb
  refine sq_if (et_test (ev_op ev_int (ev_var rfl) (od_ninI vs_t))) (fun hb => ?_) fun hb => sq_next ?_
  · refine sq_ret (st_ret ev_str ⟨?_, rfl⟩)
    unfold kindV
    rw [if_neg hb1, if_pos (of_decide_eq_true hb)]
  have hb2 := of_decide_eq_false hb
  refine sq_set (ev_meth (n := 2) hp (ev_var rfl) in_f (ea_cons ev_int ea_nil)) ?_
  have ekv : kindV n hs path = if cntsV n path = List.replicate n 2 then ("plain" : Str) else if (nubI (cntsV n path)).length = 1 then ("treble dodging" : Str) else ("other" : Str) := by
    unfold kindV
    rw [if_neg hb1, if_neg hb2]
  rw [ekv]
  have hcl : (cntsV n path).length = n := by unfold cntsV; rw [List.length_map, rng_len]
  refine sq_set (en_lcMT (as := rng n) (enc := D.int) (fe := fun v => cntV path v) D.int (ei_eq (ei_rg2 (ea_cons ev_int (ea_cons (ev_op (ev_fld (ev_var rfl) in_f CM.c CM.n2 rfl) ev_int od_I0i) ea_nil)) (by omega) (by omega)) ?_) (by rw [rng_len]; omega) fun v hv => ⟨_, _, eg_name, by decide, Ev.of_eq (ev_cb (ea_cons (en_lcT (as := path) (enc := D.int) (b := fun p => decide (p = v)) (fe := fun _ => (1 : Int)) D.int (ei_tup (ev_var rfl)) (by omega) fun p hp => ⟨_, _, eg_name, by decide, et_test (ev_op (ev_var rfl) (ev_var rfl) od_eqI), fun _ => ev_int⟩).ev ea_nil) (ca_len vs_f)) ?_⟩).ev ?_
  · rw [show (1 : Int) = 1 from rfl, rg_rng]
  · rw [List.length_map, List.length_map]
    rfl
  show StD T K E _ [_, _, _, some (.lst ((cntsV n path).map D.int)), _, _, _] _ _
  generalize cntsV n path = cs at hcl ⊢
  have e1 : ∀ g : G, g[0]? = some (some (metD cM nm n chs)) → EvN T K (tOp rRep (tLst (tCons (tC (V.int 2)) tNil)) (tFld K (tVar 0) "bells")) g [] (List.replicate ((n : Nat) : Int).toNat [D.int 2]).flatten [] := fun g hg => en_rep (en_lst (ea_cons ev_int ea_nil) (by simp)).ev (ev_fld (ev_var hg) in_f CM.c CM.n2 rfl) vl_f (by omega) (by
    show 1 * _ ≤ _
    omega)
  have ef : (List.replicate ((n : Nat) : Int).toNat [D.int 2]).flatten = (List.replicate n (2 : Int)).map D.int := by
    rw [rep_flat, List.map_replicate]
    rfl
  rw [ef] at e1
  refine sq_if (et_eq (et_test (ev_op (ev_var rfl) (e1 _ rfl).ev (od_eqD vd_f vd_f (sh_il cs) (sh_il _)))) (eq_il _ _)) (fun hb => ?_) fun hb => sq_next ?_
  · refine sq_ret (st_ret ev_str ⟨?_, rfl⟩)
    rw [if_pos (of_decide_eq_true hb)]
  rw [if_neg (of_decide_eq_false hb)]
  refine st_ret (ev_ifS (b := decide ((nubI cs).length = 1)) (et_eq (et_test (ev_op (ev_lenD (ea_cons (ev_dcK (ns := cs) (d := .bl true) (ei_lst (ev_var rfl)) (by omega) fun v hv => ⟨_, _, eg_name, by decide, ev_var rfl, ev_bl⟩) ea_nil)) ev_int od_eqI)) ?_) (fun _ => ev_str) fun _ => ev_str) ⟨?_, rfl⟩
  · rw [List.length_map]
    exact decide_eq_decide.mpr ⟨fun z => by omega, fun z => by omega⟩
  · by_cases z : (nubI cs).length = 1
    · rw [if_pos z, if_pos (decide_eq_true z)]
    · rw [if_neg z, if_neg (by simp [z])]
end
end Bs
namespace Bs
open PySem PySem.Spec PyProof.Rows L2 DL GX GxR DY






section
variable {P : Program} {w : World} {K : PySem.W.Frag} {mg : Str → Option Value} {base : Heap} {T : Tb} {cRow cPl cM cE : Addr} {f c Pt : Addr} {fd : FuncData} {uS uM : Value}
/-! ### the law's kinds -/
/-- the greatest -/
def maxI : List Int → Int
  | [] => 0
  | [a] => a
  | a :: b :: l => max a (maxI (b :: l))
theorem maxI_mem : ∀ {l : List Int}, l ≠ [] → maxI l ∈ l
  | [a], _ => by simp [maxI]
  | a :: b :: l, _ => by
    have ih := maxI_mem (l := b :: l) (by simp)
    show max a (maxI (b :: l)) ∈ _
    by_cases h : a ≤ maxI (b :: l)
    · rw [Int.max_eq_right h]; exact List.mem_cons_of_mem _ ih
    · rw [Int.max_eq_left (by omega)]; simp
theorem maxI_le : ∀ {l : List Int} {y : Int}, y ∈ l → y ≤ maxI l
  | [a], y, h => by simp at h; subst h; exact Int.le_refl _
  | a :: b :: l, y, h => by
    show y ≤ max a (maxI (b :: l))
    rcases List.mem_cons.mp h with z | z
    · subst z; exact Int.le_max_left _ _
    · exact Int.le_trans (maxI_le z) (Int.le_max_right _ _)
theorem ca_maxL {g : G} {r : Rs} {x : D} {ns : List Int} (hv : Vl x r (ns.map D.int)) (h0 : ns ≠ []) : CaD T K (rMax K) [x] g r (.int (maxI ns)) r := fun rf Hs H σ us s ru Q q => by
  obtain ⟨v, rfl, rv⟩ := ru.one
  obtain ⟨a, xs, rfl, h1, h2⟩ := hv.at s rv
  have e := DRs.ints_inv h2
  subst e
  refine ⟨a, ns, rfl, Evl.sq_of h1, List.length_pos_iff.mpr h0, fun m hm hl => ?_⟩
  have : m = maxI ns := Int.le_antisymm (maxI_le hm) (hl _ (maxI_mem h0))
  subst this
  exact q _ _ _ (Ext.refl _) s (.int _)
theorem ca_minL {g : G} {r : Rs} {x : D} {ns : List Int} (hv : Vl x r (ns.map D.int)) (h0 : ns ≠ []) : CaD T K (rMin K) [x] g r (.int (minI ns)) r := fun rf Hs H σ us s ru Q q => by
  obtain ⟨v, rfl, rv⟩ := ru.one
  obtain ⟨a, xs, rfl, h1, h2⟩ := hv.at s rv
  have e := DRs.ints_inv h2
  subst e
  refine ⟨a, ns, rfl, Evl.sq_of h1, List.length_pos_iff.mpr h0, fun m hm hl => ?_⟩
  have : m = minI ns := Int.le_antisymm (hl _ (minI_mem h0)) (minI_le hm)
  subst this
  exact q _ _ _ (Ext.refl _) s (.int _)
def lcntV (rows : List (List Int)) (i : Nat) : Int := ((rows.filter fun row => decide (row.getD i 0 = 1)).length : Nat)
def lcntsV (n : Nat) (rows : List (List Int)) : List Int := (List.range n).map fun i => lcntV rows i
def lkindV (n : Nat) (h : List Int) (rows : List (List Int)) : Str :=
  if h = [] then "principle" else if (1 : Int) ∉ h then "other" else if lcntsV n rows = List.replicate n 2 then "plain" else if minI (lcntsV n rows) = maxI (lcntsV n rows) then "treble dodging" else "other"
def R_lkind : Rel := fun ds r o => ∃ (n : Nat) (chs : List (List Int)), metOk n chs ∧ n ≤ 7 ∧ (chs.length ≤ 12 ∧ (courseV chs n).length ≤ 45369) ∧ ds = [.int n, .lst (chs.map rowD)] ∧ r = [] ∧ o = .one (.str (lkindV n (huntV n (headV chs (rng n))) (leadV chs (rng n)))) []
theorem rg0_eq (n : Nat) : rgD 0 ((n : Nat) : Int).toNat = ((List.range n).map fun i => ((i : Nat) : Int)).map D.int := by
  unfold rgD
  rw [List.map_map]
  refine List.map_congr_left fun i _ => ?_
  show D.int (0 + (i : Int)) = D.int (i : Int)
  rw [Int.zero_add]
theorem sc__law_kind : FnScope ["bells", "changes", "lead", "head", "hunters", "bell", "counts", "row", "place"] ["bells", "changes"] (defScope s__law_kind) := ⟨rfl, rfl, rfl, by decide +kernel, rfl, by decide +kernel, by decide +kernel⟩
theorem ok_lkind (F : Fun K "_law_kind" "_law_kind" s__law_kind f fd) (B : Bi mg) (c_llead : Cal P w K mg base T "_law_lead" 2 ["row", "changes"] R_llead) : FnOk P w K mg base (L2.CX P w) 3 f fd ["bells", "changes"] (spR T K 2 R_lkind) := by
  obtain ⟨f_r, fd_r, o__law_lead, m__law_lead, k__law_lead, b__law_lead⟩ := c_llead.ex
  refine F.okX sc__law_kind spR_len (fun cdv A outer s H vs Q E hr h => ⟨_, (pss_cons (ps_set (i := 2) sc__law_kind.nd rfl (by first | exact Or.inl rfl | exact Or.inr rfl) (pe_call o__law_lead (hr.mono (by decide)) (by rfl) m__law_lead k__law_lead b__law_lead .nil (passes_call (takes_of (E := E) rfl rfl rfl rfl) (fun _ _ _ _ h => h)) (pa_cons (pe_tupRg rfl (by rfl) B.tuple (prg_2 (by rfl) B.range pe_int (pe_op op_add (pv 0) pe_int))) (pa_cons (pv 1) pa_nil))))
      (pss_cons (ps_set (i := 3) sc__law_kind.nd rfl (by first | exact Or.inl rfl | exact Or.inr rfl) (pe_ix (r := rIxL K) ix_list (pv 2) (pe_op op_sub (pe_callB (r := rLenX K) call_len (by rfl) B.len PySem.boot_len (pa_cons (pv 2) pa_nil)) pe_int) (fun _ _ => rfl)))
      (pss_cons (ps_setLc (i := 4) (own := [("bell", 5)]) rfl sc__law_kind.nd rfl rfl (sw_true rfl rfl rfl (by decide +kernel)) (pi_range2 rfl B.range (pa_cons pe_int (pa_cons (pe_op op_add (pv 0) pe_int) pa_nil))) (blkOk_by (N := ["bells", "changes", "lead", "head", "hunters", "bell", "counts", "row", "place"]) (by kernel_rfl)) (fun _ _ _ _ _ => (pg_name (i := 5) sc__law_kind.nd rfl (by first | exact Or.inl rfl | exact Or.inr rfl))) (fun _ _ _ _ _ => (pts_one (pt_cmpR op_eq (pe_ix (r := rIxT K) ix_tup (pv 3) (pe_op op_sub (pv 5) pe_int) (fun _ _ => rfl)) (pv 5) (nomark _)))) (fun _ _ _ _ _ => (pv 5)))
      (pss_cons (ps_setLc (i := 6) (own := [("place", 8)]) rfl sc__law_kind.nd rfl rfl (sw_true rfl rfl rfl (by decide +kernel)) (pi_range1 rfl B.range (pa_cons (pv 0) pa_nil)) (blkOk_by (N := ["bells", "changes", "lead", "head", "hunters", "bell", "counts", "row", "place"]) (by kernel_rfl)) (fun _ _ _ _ _ => (pg_name (i := 8) sc__law_kind.nd rfl (by first | exact Or.inl rfl | exact Or.inr rfl))) (fun _ _ _ _ _ => pts_nil) (fun _ _ _ _ _ => (pe_callB (r := rLenX K) call_len (by rfl) B.len PySem.boot_len (pa_cons (pe_lc (own := [("row", 7)]) rfl sc__law_kind.nd (show PI _ _ _ (iList K _) from pi_list (pv 2)) (blkOk_by (N := ["bells", "changes", "lead", "head", "hunters", "bell", "counts", "row", "place"]) (by kernel_rfl)) (fun _ _ _ _ _ => (pg_name (i := 7) sc__law_kind.nd rfl (by first | exact Or.inl rfl | exact Or.inr rfl))) (fun _ _ _ _ _ => (pts_one (pt_cmpR op_eq (pe_ix (r := rIxT K) ix_tup (pv 7) (pv 8) (fun _ _ => rfl)) pe_int (nomark _)))) (fun _ _ _ _ _ => pe_int)) pa_nil))))
      (pss_cons (ps_if (pt_cmpR (r := rEqD K) (op_eqD hr.units) (pv 4) (pe_lst pa_nil) (nomark _)) (pss_one (ps_ret pe_str)) pss_nil)
      (pss_cons (ps_if (pt_cmpR (r := rIn K true) op_notIn_seq pe_int (pv 4) (by rfl)) (pss_one (ps_ret pe_str)) pss_nil)
      (pss_one (ps_ret (pe_ifExp (pt_cmpR (r := rEqD K) (op_eqD hr.units) (pv 6) (pe_op op_rep (pe_lst (pa_cons pe_int pa_nil)) (pv 0)) (nomark _)) pe_str (pe_ifExp (pt_cmpR op_eq (pe_callB (r := rMin K) (cr_min rfl) (by rfl) B.min (by decide +kernel) (pa_cons (pv 6) pa_nil)) (pe_callB (r := rMax K) (cr_max rfl) (by rfl) B.max (by decide +kernel) (pa_cons (pv 6) pa_nil)) (nomark _)) pe_str pe_str)))))))))), ?_⟩)
  refine keeps h (by decide) ?_
  rintro ds r o hl ⟨n, chs, hm, hn7, hc10, rfl, rfl, rfl⟩
  have hne : chs ≠ [] := fun z => by have := hm.2.1.1; rw [z] at this; simp at this
  have n3 := hm.1.1
  have hhl : (headV chs (rng n)).length = n := by rw [(head_perm chs (rng n)).length_eq, rng_len]
  have hrl : ∀ q ∈ leadV chs (rng n), q.length = n := fun q hq => by rw [(lead_perm _ _ q hq).length_eq, rng_len]
  have hll : (leadV chs (rng n)).length = chs.length := lead_len _ _
  have hlst : (leadV chs (rng n)).getLast? = some (headV chs (rng n)) := lead_last hne
  refine sq_set (ev_wL (ev_callC (n := 2) (R := R_llead) (llead_ok hm (.refl _)) (ea_cons (Ev.of_eq (ev_tupRg (er_2 ev_int (ev_op (ev_var rfl) ev_int od_I0i)) (by omega) (by omega)) (congrArg D.tup (rg_rng n))) (ea_cons (ev_var rfl) ea_nil)) rfl)) ?_
  generalize leadV chs (rng n) = rows at hlst hrl hll ⊢
  generalize headV chs (rng n) = hd at hlst hhl ⊢
  refine sq_set (d := rowD hd) (ev_op (ev_var rfl) (ev_op (ev_cb (ea_cons (ev_var rfl) ea_nil) (ca_len vs_f)) ev_int od_I0i) (od_ixL vl_f (last_at hlst))) ?_
  have ix : ∀ (l : List Int) (i : Int), l.length = n → 0 ≤ i → i < n → atI (l.map D.int) i = some (.int (l.getD i.toNat 0)) := fun l i h h1 h2 => atI_of (by omega) (by
    rw [List.getElem?_map, List.getD_eq_getElem?_getD, List.getElem?_eq_getElem (by omega)]
    rfl)
  refine sq_set (en_lcT (as := rng n) (enc := D.int) (b := fun b => decide (hd.getD (b - 1).toNat 0 = b)) (fe := fun v => v) D.int (ei_eq (ei_rg2 (ea_cons ev_int (ea_cons (ev_op (ev_var rfl) ev_int od_I0i) ea_nil)) (by omega) (by omega)) (rg_rng n)) (by rw [rng_len]; omega) fun v hv => ⟨_, _, eg_name, by decide, et_test (ev_op (ev_op (ev_var rfl) (ev_op (ev_var rfl) ev_int od_I0i) (od_ixT (ix hd (v - 1) hhl (by have := rng_mem.mp hv; omega) (by have := rng_mem.mp hv; omega)))) (ev_var rfl) od_eqI), fun _ => ev_var rfl⟩).ev ?_
  rw [List.map_id']
  show StD T K E _ [_, _, _, _, some (.lst ((huntV n hd).map D.int)), _, _, _, _] _ _
  generalize huntV n hd = hs
  refine sq_set (en_lcMT (as := (List.range n).map fun i => ((i : Nat) : Int)) (enc := D.int) (fe := fun v => lcntV rows v.toNat) D.int (ei_eq (ei_rg1 (ea_cons (ev_var rfl) ea_nil) (by omega)) (rg0_eq n)) (by rw [List.length_map, List.length_range]; omega) fun v hv => ⟨_, _, eg_name, by decide, Ev.of_eq (ev_cb (ea_cons (en_lcT (as := rows) (enc := rowD) (b := fun row => decide (row.getD v.toNat 0 = 1)) (fe := fun _ => (1 : Int)) D.int (ei_lst (ev_var rfl)) (by omega) fun q hq => ⟨_, _, eg_name, by decide, et_test (ev_op (ev_op (ev_var rfl) (ev_var rfl) (od_ixT (ix q v (hrl q hq) ?_ ?_))) ev_int od_eqI), fun _ => ev_int⟩).ev ea_nil) (ca_len vs_f)) ?_⟩).ev ?_
  · obtain ⟨i, hi, rfl⟩ := List.mem_map.mp hv
    show (0 : Int) ≤ ((i : Nat) : Int)
    omega
  · obtain ⟨i, hi, rfl⟩ := List.mem_map.mp hv
    have := List.mem_range.mp hi
    show ((i : Nat) : Int) < n
    omega
  · rw [List.length_map, List.length_map]
    rfl
  have ecs : ((List.range n).map fun i => ((i : Nat) : Int)).map (fun v => lcntV rows v.toNat) = lcntsV n rows := by
    rw [List.map_map]
    rfl
  rw [ecs]
  have hcl : (lcntsV n rows).length = n := by unfold lcntsV; rw [List.length_map, List.length_range]
  refine sq_if (et_eq (et_test (ev_op (ev_var rfl) (en_lst ea_nil (by simp)).ev (od_eqD vd_f (vd_f (d := .lst [])) (sh_il hs) (sh_il [])))) (eq_il hs [])) (fun hb => ?_) fun hb => sq_next ?_
  · refine sq_ret (st_ret ev_str ⟨?_, rfl⟩)
    unfold lkindV
    rw [if_pos (of_decide_eq_true hb)]
  have hb1 := of_decide_eq_false hb
  refine sq_if (et_test (ev_op ev_int (ev_var rfl) (od_ninI vs_f))) (fun hb => ?_) fun hb => sq_next ?_
  · refine sq_ret (st_ret ev_str ⟨?_, rfl⟩)
    unfold lkindV
    rw [if_neg hb1, if_pos (of_decide_eq_true hb)]
  have hb2 := of_decide_eq_false hb
  have ekv : lkindV n hs rows = if lcntsV n rows = List.replicate n 2 then ("plain" : Str) else if minI (lcntsV n rows) = maxI (lcntsV n rows) then ("treble dodging" : Str) else ("other" : Str) := by
    unfold lkindV
    rw [if_neg hb1, if_neg hb2]
  rw [ekv]
  generalize lcntsV n rows = cs at hcl ⊢
  have hcn : cs ≠ [] := fun z => by rw [z] at hcl; simp at hcl; omega
  have e1 : ∀ g : G, g[0]? = some (some (.int ((n : Nat) : Int))) → EvN T K (tOp rRep (tLst (tCons (tC (V.int 2)) tNil)) (tVar 0)) g [] (List.replicate ((n : Nat) : Int).toNat [D.int 2]).flatten [] := fun g hg => en_rep (en_lst (ea_cons ev_int ea_nil) (by simp)).ev (ev_var hg) vl_f (by omega) (by
    show 1 * _ ≤ _
    omega)
  have ef : (List.replicate ((n : Nat) : Int).toNat [D.int 2]).flatten = (List.replicate n (2 : Int)).map D.int := by
    rw [rep_flat, List.map_replicate]
    rfl
  rw [ef] at e1
  refine st_ret (ev_ifS (b := decide (cs = List.replicate n 2)) (et_eq (et_test (ev_op (ev_var rfl) (e1 _ rfl).ev (od_eqD vd_f vd_f (sh_il cs) (sh_il _)))) (eq_il _ _)) (fun _ => ev_str) fun _ => ev_ifS (et_test (ev_op (ev_cb (ea_cons (ev_var rfl) ea_nil) (ca_minL vl_f hcn)) (ev_cb (ea_cons (ev_var rfl) ea_nil) (ca_maxL vl_f hcn)) od_eqI)) (fun _ => ev_str) fun _ => ev_str) ⟨?_, rfl⟩
  by_cases z : cs = List.replicate n 2
  · rw [if_pos z, if_pos (decide_eq_true z)]
  · rw [if_neg z, if_neg (by simp [z])]
    by_cases z2 : minI cs = maxI cs
    · rw [if_pos z2, if_pos (decide_eq_true z2)]
    · rw [if_neg z2, if_neg (by simp [z2])]
end
end Bs
namespace Bs
open PySem PySem.Spec PyProof.Rows L2 DL GX GxR DY
/-! ### both kinds agree -/
theorem mem_step {acc : List Int} {n x : Int} : x ∈ nubStep acc n ↔ x ∈ acc ∨ x = n := by
  unfold nubStep
  split
  · rename_i h
    refine ⟨Or.inl, fun z => z.elim id fun e => e ▸ h⟩
  · simp
theorem nod_step {acc : List Int} {n : Int} (h : acc.Nodup) : (nubStep acc n).Nodup := by
  unfold nubStep
  split
  · exact h
  · rename_i hn
    refine List.nodup_append.mpr ⟨h, by simp, fun a ha b hb e => ?_⟩
    have := List.mem_singleton.mp hb
    subst this
    subst e
    exact hn ha
theorem nub_inv : ∀ (l acc : List Int), acc.Nodup → (l.foldl nubStep acc).Nodup ∧ ∀ x, x ∈ l.foldl nubStep acc ↔ x ∈ acc ∨ x ∈ l
  | [], acc, h => ⟨h, fun x => by simp⟩
  | n :: l, acc, h => by
    obtain ⟨a, b⟩ := nub_inv l (nubStep acc n) (nod_step h)
    refine ⟨a, fun x => ?_⟩
    rw [List.foldl_cons, b, mem_step, List.mem_cons]
    exact or_assoc
theorem nub_one {cs : List Int} (h : cs ≠ []) : (nubI cs).length = 1 ↔ minI cs = maxI cs := by
  obtain ⟨hn, hm⟩ := nub_inv cs [] List.nodup_nil
  have hm : ∀ x, x ∈ nubI cs ↔ x ∈ cs := fun x => (hm x).trans (by simp)
  have hn : (nubI cs).Nodup := hn
  constructor
  · intro e
    obtain ⟨a, ea⟩ := List.length_eq_one_iff.mp e
    have h1 := (hm _).mpr (minI_mem h)
    have h2 := (hm _).mpr (maxI_mem h)
    rw [ea] at h1 h2
    rw [List.mem_singleton.mp h1, List.mem_singleton.mp h2]
  · intro e
    have all : ∀ x ∈ nubI cs, x = minI cs := fun x hx => by
      have h1 := minI_le ((hm x).mp hx)
      have h2 := maxI_le ((hm x).mp hx)
      omega
    have h0 := (hm _).mpr (minI_mem h)
    revert hn all h0
    generalize nubI cs = l
    intro hn all h0
    match l with
    | [] => exact nomatch h0
    | [a] => rfl
    | a :: b :: t =>
      have h1 := all a (by simp)
      have h2 := all b (by simp)
      rw [List.nodup_cons] at hn
      exact absurd (by rw [h1, h2]; simp) hn.1
theorem cnts_eq {n : Nat} {rows : List (List Int)} (h : ∀ q ∈ rows, q.Perm (rng n)) (n1 : 1 ≤ n) : cntsV n (rows.map fun row => ((row.idxOf 1 : Nat) : Int) + 1) = lcntsV n rows := by
  unfold cntsV lcntsV rng
  rw [List.map_map]
  refine List.map_congr_left fun i hi => ?_
  have hi2 := List.mem_range.mp hi
  show cntV _ (1 + (i : Int)) = lcntV rows i
  unfold cntV lcntV
  rw [List.filter_map, List.length_map]
  congr 2
  refine List.filter_congr fun q hq => ?_
  have hp := h q hq
  have hql : q.length = n := by rw [hp.length_eq, rng_len]
  have hm : (1 : Int) ∈ q := hp.mem_iff.mpr (rng_mem.mpr (by omega))
  have hnd : q.Nodup := hp.nodup_iff.mpr (rng_nodupN n)
  show decide (((q.idxOf 1 : Nat) : Int) + 1 = 1 + (i : Int)) = decide (q.getD i 0 = 1)
  refine decide_eq_decide.mpr ⟨fun z => ?_, fun z => ?_⟩
  · have : i = q.idxOf 1 := by omega
    rw [this]
    exact getD_idx hm
  · have hlt : i < q.length := by omega
    have := hnd.idxOf_getElem i hlt
    rw [List.getD_eq_getElem?_getD, List.getElem?_eq_getElem hlt] at z
    have z' : q[i] = 1 := z
    rw [z'] at this
    omega
theorem kind_eq {n : Nat} {chs : List (List Int)} (h : metOk n chs) (hs : List Int) : kindV n hs (pathV chs n 1) = lkindV n hs (leadV chs (rng n)) := by
  have n3 := h.1.1
  have e : cntsV n (pathV chs n 1) = lcntsV n (leadV chs (rng n)) := cnts_eq (fun q hq => lead_perm _ _ q hq) (by omega)
  have hne : lcntsV n (leadV chs (rng n)) ≠ [] := fun z => by
    have := congrArg List.length z
    unfold lcntsV at this
    simp at this
    omega
  unfold kindV lkindV
  rw [e]
  split
  · rfl
  · split
    · rfl
    · split
      · rfl
      · by_cases z : (nubI (lcntsV n (leadV chs (rng n)))).length = 1
        · rw [if_pos z, if_pos ((nub_one hne).mp z)]
        · rw [if_neg z, if_neg fun y => z ((nub_one hne).mpr y)]
end Bs
namespace Bs
open PySem PySem.Spec PyProof.Rows L2 DL GX GxR DY
/-! ### a list of changes, written and read back -/
def pieceL (q : List Int) : List Nat := pcs q q
def tailL : List (List Int) → List Nat
  | [] => []
  | q :: t => [46] ++ pieceL q ++ tailL t
def textL : List (List Int) → List Nat
  | [] => []
  | q :: t => pieceL q ++ tailL t
def textV (chs : List (List Int)) : Str := ⟨(textL chs).toArray⟩
theorem piece_pc {n : Nat} (h3 : 3 ≤ n) (h8 : n ≤ 8) {q : List Int} (h : q ∈ lawV n) : Pc n q (pieceL q) := by
  have ok := ((heap_fine n h3 h8).2.2 q h).1
  by_cases e : q = []
  · subst e
    exact Or.inl ⟨rfl, rfl, ok⟩
  · obtain ⟨_, h2, h4⟩ := heap_cuts n h3 h8 q h e false false q q (by simp) (by simp)
    have ep : pieceL q = q.map bellC := by unfold pieceL pcs; rw [if_neg e]
    rw [ep]
    exact Or.inr ⟨e, okS_bells e h2, h4, ok⟩
theorem rd_tail {n : Nat} : ∀ (t : List (List Int)) (cs : List Nat) (rows : List (List Int)), (∀ q ∈ t, Pc n q (pieceL q)) → Rd n cs rows → Rd n (cs ++ tailL t) (rows ++ t)
  | [], cs, rows, _, h => by
    rw [tailL, List.append_nil, List.append_nil]
    exact h
  | q :: t, cs, rows, hp, h => by
    have h1 := Rd.next h (hp q (by simp)) (sep := [46]) (Or.inl rfl)
    have h2 := rd_tail t _ _ (fun x hx => hp x (List.mem_cons_of_mem _ hx)) h1
    have e1 : cs ++ tailL (q :: t) = cs ++ [46] ++ pieceL q ++ tailL t := by rw [tailL]; simp
    have e2 : rows ++ q :: t = rows ++ [q] ++ t := by simp
    rw [e1, e2]
    exact h2
theorem rd_text {n : Nat} {chs : List (List Int)} (h0 : chs ≠ []) (h : ∀ q ∈ chs, Pc n q (pieceL q)) : Rd n (textL chs) chs := by
  cases chs with
  | nil => exact (h0 rfl).elim
  | cons q t => exact rd_tail t _ _ (fun x hx => h x (List.mem_cons_of_mem _ hx)) (Rd.first (h q (by simp)))
theorem text_44 {n : Nat} (h3 : 3 ≤ n) (h8 : n ≤ 8) {chs : List (List Int)} (h : ∀ q ∈ chs, q ∈ lawV n) : 44 ∉ textL chs := by
  have pl : ∀ q ∈ lawV n, 44 ∉ pieceL q := fun q hq hm => by
    have ok := ((heap_fine n h3 h8).2.2 q hq).1
    have := okP_len ok
    exact pcs_plain (one := q) (mid := q) (fun b hb => by have := this.2 b hb; omega) 44 hm rfl
  have tl : ∀ t : List (List Int), (∀ q ∈ t, q ∈ lawV n) → 44 ∉ tailL t := by
    intro t
    induction t with
    | nil => intro _ hm; cases hm
    | cons q t ih =>
      intro ht hm
      rw [tailL] at hm
      rcases List.mem_append.mp hm with z | z
      · rcases List.mem_append.mp z with z | z
        · exact absurd (List.mem_singleton.mp z) (by decide)
        · exact pl q (ht q (by simp)) z
      · exact ih (fun x hx => ht x (List.mem_cons_of_mem _ hx)) z
  cases chs with
  | nil => intro hm; cases hm
  | cons q t =>
    intro hm
    rcases List.mem_append.mp hm with z | z
    · exact pl q (h q (by simp)) z
    · exact tl t (fun x hx => h x (List.mem_cons_of_mem _ hx)) z
theorem text_back {n : Nat} (h3 : 3 ≤ n) (h8 : n ≤ 8) {chs : List (List Int)} (h0 : chs ≠ []) (h : ∀ q ∈ chs, q ∈ lawV n) : chgsV n (textV chs) = some chs := by
  have e : (textV chs).cps.toList = textL chs := List.toList_toArray
  unfold chgsV
  rw [if_neg (by rw [e]; exact text_44 h3 h8 h)]
  exact Rd.plain (by rw [e]; exact rd_text h0 fun q hq => piece_pc h3 h8 (h q hq)) h0
end Bs
/-! row.index(n) where it stands, row a tuple whose object has no dict -/
namespace IdT
open PySem PySem.Spec PyProof.Rows L2 GxR
abbrev rJoin (K : PySem.W.Frag) : V → List V → Hp → VK → Prop := fun x xs H Q => ∃ a p, ∃ ys : List Str, x = .str a ∧ xs = [.ref p] ∧ (SqL K H p (ys.map V.str) ∨ SqT K H p (ys.map V.str)) ∧
  (ys.map (·.length)).sum + ys.length * a.length ≤ 16777216 ∧ Q (.str (Txt.join a ys)) H
def tIdxT (K : PySem.W.Frag) (to : TE) (ta : TA) : TE := fun σ H Q => to σ H fun x H1 => ∃ (p : Addr) (ob : Obj) (ns : List Int), x = .ref p ∧ H1 p = some (.frz ob (.tup (ns.map V.int))) ∧ ob.dict = none ∧
  ta σ H1 fun ys H2 => ∃ n : Int, ys = [.int n] ∧ H2 p = some (.frz ob (.tup (ns.map V.int))) ∧ n ∈ ns ∧ Q (.int ((ns.idxOf n : Nat) : Int)) H2
section
variable {X : Cx} {o e : Expr} {to : TE} {t : TA} {apos cpos : Pos}
theorem pe_idxT (ho : PE X o to) (ha : PA X [e] t)
    (hbase : attributeBase o "index" X.env (eval o X.env) = eval o X.env := by rfl)
    (hfew : ((backTo cpos (starEach [e] X.env)).all (fun x => !x.1) && (backToKw cpos (keywordEach [] X.env)).all (fun x => x.1.isSome)
      && decide (([e] : List Expr).length + ([] : List Keyword).length + (if ([] : List Keyword).isEmpty then 0 else 1) < 30)) = true := by rfl)
    (hline : (apos.endLine == cpos.line) = true := by rfl) (hs : starEach [e] X.env = (false, eval e X.env) :: starEach [] X.env := by rfl) (hplain : (backTo cpos (starEach [] X.env)).any (·.1) = false := by rfl) :
    PE X (.Call (.Attribute o "index" apos) [e] [] cpos) (tIdxT X.K to t) := by
  refine ⟨fun pins s σ H Q I h => ?_⟩
  refine wpAny_Call_method_late hbase hfew hline rfl (thn (ho.run pins s σ H _ I h) fun v s1 ⟨x, H1, I1, r1, p, ob, ns, ex, h3, h4, q1⟩ => ?_)
  subst ex
  cases r1
  obtain ⟨its, rv, ht, hz⟩ := I1.tuple (Or.inl (Or.inr ⟨_, h3⟩))
  refine ⟨"tuple", "tuple.index", PySem.F.plainAttrs_tuple, PySem.F.slot_tuple_index, PySem.F.type_tuple_index, ht.typeIs, (fun a e => by cases e; exact ⟨ob, (I1.hok _ _ h3).1, h4⟩), ?_⟩
  have hA := ha.run cpos pins s1 σ H1 _ I1 q1
  rw [hs] at hA ⊢
  refine Calls.callWith_builtin (by show (false || (backTo cpos (starEach [] X.env)).any (·.1)) = false; rw [hplain] <;> rfl) (Calls.evalArgs_plain ?_)
  refine thn hA fun us s2 ⟨vs, H2, I2, r2, n, ev, h3', hn, q2⟩ => ?_
  subst ev
  obtain ⟨u, rfl, ru⟩ := vals1 r2
  obtain ⟨t, rfl⟩ := ru
  obtain ⟨its2, rv2, ht2, hz2⟩ := I2.tuple (Or.inl (Or.inr ⟨_, h3'⟩))
  have hi := rv2.ints
  refine SeqAt.call_tuple_index (ks := ns) (k := n) (vs := its2) ht2 ⟨?_, fun j hj1 hj2 => ?_⟩ hn ⟨.int ((ns.idxOf n : Nat) : Int), H2, I2.tok _, ⟨_, rfl⟩, q2⟩
  · rw [← rv2.length, List.length_map]
  · obtain ⟨w, hw, t', hw'⟩ := rv2.get (i := j) (x := .int ns[j]) (by simp [hj2])
    have e := (List.getElem?_eq_some_iff.mp hw).2
    rw [e, hw']
    have := SeqAt.EqAt.int_int (A := X.A.in1) (s := s2) ns[j] t' n t
    have e2 : (ns[j] == n) = decide (ns[j] = n) := by
      by_cases z : ns[j] = n <;> simp [z]
    rw [e2] at this
    exact this
end
end IdT
namespace DL
open PySem PySem.Spec PyProof.Rows L2 GxR
theorem ev_idxT {T : Tb} {K : PySem.W.Frag} {to : TE} {ta : TA} {g : G} {r r1 r2 : Rs} {ns : List Int} {n : Int} (h : Ev T K to g r (.tux (ns.map D.int)) r1) (ha : EvA T K ta g r1 [.int n] r2) (hn : n ∈ ns) : Ev T K (IdT.tIdxT K to ta) g r (.int ((ns.idxOf n : Nat) : Int)) r2 := fun rf Hs H σ s Q q =>
  h rf Hs H σ s _ fun v Hs1 H1 e1 s1 rv => by
    cases rv with
    | tux h5 h6 h7 =>
      have e := DRs.ints_inv h7
      subst e
      refine ⟨_, _, ns, rfl, s1.ex.keep _ _ h5 (fun _ z => nomatch z), h6, ha _ _ _ _ s1 _ fun ys Hs2 H2 e2 s2 rvs => ?_⟩
      obtain ⟨w, rfl, rw'⟩ := rvs.one
      cases rw'
      exact ⟨n, rfl, s2.ex.keep _ _ (e2.keep _ _ h5 (fun _ z => nomatch z)) (fun _ z => nomatch z), hn, q _ _ _ (e1.trans e2) s2 (.int _)⟩
end DL
namespace Bs
open PySem PySem.Spec PyProof.Rows L2 DL GX GxR DY TL
def pieceS (q : List Int) : Str := ⟨(pieceL q).toArray⟩
theorem joinL_tail : ∀ (q : List Int) (t : List (List Int)), joinL [46] ((q :: t).map pieceL) = pieceL q ++ tailL t
  | q, [] => by
    show pieceL q = pieceL q ++ []
    rw [List.append_nil]
  | q, q2 :: t => by
    show pieceL q ++ ([46] ++ joinL [46] ((q2 :: t).map pieceL)) = _
    rw [joinL_tail q2 t, tailL, List.append_assoc]
theorem join_text (chs : List (List Int)) : Txt.join "." (chs.map pieceS) = textV chs := by
  refine str_ext ?_
  rw [join_eq]
  have h : tl (Str.join "." (chs.map pieceS)) = joinL (tl ".") ((chs.map pieceS).map tl) := tl_join _ _
  have e : (chs.map pieceS).map tl = chs.map pieceL := by
    rw [List.map_map]
    rfl
  have e2 : tl "." = [46] := by decide +kernel
  have e3 : joinL [46] (chs.map pieceL) = textL chs := by
    cases chs with
    | nil => rfl
    | cons q t => exact joinL_tail q t
  rw [e, e2, e3] at h
  exact h
theorem ev_joinDot {T : Tb} {K : PySem.W.Frag} {g : G} {r r1 : Rs} {te : TE} {x : D} {chs : List (List Int)} (h : Ev T K te g r x r1) (hv : Vs x r1 (chs.map fun q => D.str (pieceS q))) (hl : chs.length ≤ 1000) (hq : ∀ q ∈ chs, q.length ≤ 100) : Ev T K (tM1 (fun x xs H Q => ∃ a p, ∃ ys : List Str, x = .str a ∧ xs = [.ref p] ∧ (SqL K H p (ys.map V.str) ∨ SqT K H p (ys.map V.str)) ∧
      (ys.map (·.length)).sum + ys.length * a.length ≤ 16777216 ∧ Q (.str (Txt.join a ys)) H) (tC (.str ".")) te) g r (.str (textV chs)) r1 := fun rf Hs H σ s Q q => by
  refine ⟨⟨_, rfl⟩, h rf Hs H σ s _ fun v Hs1 H1 e s1 rv => ?_⟩
  obtain ⟨a, xs, rfl, h1, h2⟩ := hv.at s1 rv
  have e1 : (chs.map fun q => D.str (pieceS q)) = (chs.map pieceS).map D.str := by
    rw [List.map_map]
    rfl
  rw [e1] at h2
  have e2 := DRs.strs_inv h2
  subst e2
  refine ⟨".", a, _, rfl, rfl, h1, ?_, ?_⟩
  · have e3 : ∀ l : List (List Int), (∀ q ∈ l, q.length ≤ 100) → ((l.map pieceS).map (·.length)).sum ≤ 101 * l.length := by
      intro l
      induction l with
      | nil => intro _; exact Nat.le_refl 0
      | cons c t ih =>
        intro hh
        have h5 := ih fun q hq => hh q (List.mem_cons_of_mem _ hq)
        have h6 : (pieceS c).length ≤ 101 := by
          show (pieceL c).toArray.size ≤ 101
          have := hh c (by simp)
          have h7 : (pieceL c).length ≤ c.length + 1 := pcs_len
          simp
          omega
        rw [List.map_cons, List.map_cons, List.sum_cons, List.length_cons]
        omega
    have h4 := e3 chs hq
    have e4 : (".": Str).length = 1 := by decide +kernel
    rw [e4, List.length_map]
    omega
  · rw [join_text]
    exact q _ _ _ e s1 (.str _)
end Bs
namespace Bs
open PySem PySem.Spec PyProof.Rows L2 DL GX GxR DY
theorem tail_len : ∀ (t : List (List Int)), (∀ q ∈ t, q.length ≤ 7) → (tailL t).length ≤ 9 * t.length
  | [], _ => Nat.le_refl 0
  | q :: t, h => by
    have ih := tail_len t fun x hx => h x (List.mem_cons_of_mem _ hx)
    have h1 := h q (by simp)
    have h7 : (pieceL q).length ≤ q.length + 1 := pcs_len
    have h8 : (q :: t).length = t.length + 1 := rfl
    rw [tailL, List.length_append, List.length_append, h8]
    show 1 + _ + _ ≤ _
    omega
theorem text_len {chs : List (List Int)} (h : ∀ q ∈ chs, q.length ≤ 7) : (textV chs).length ≤ 9 * chs.length := by
  show (textL chs).toArray.size ≤ _
  rw [List.size_toArray]
  cases chs with
  | nil => exact Nat.le_refl 0
  | cons q t =>
    have h1 := tail_len t fun x hx => h x (List.mem_cons_of_mem _ hx)
    have h2 := h q (by simp)
    have h7 : (pieceL q).length ≤ q.length + 1 := pcs_len
    rw [textL, List.length_append, List.length_cons]
    omega
/-- a method made of a text of the heap's changes -/
theorem init_text {cRow cPl C p : Addr} {nm : Str} {n : Nat} {chs : List (List Int)} (n3 : 3 ≤ n) (n7 : n ≤ 7) (h1 : 1 ≤ chs.length) (h8 : chs.length ≤ 8) (h : ∀ q ∈ chs, q ∈ lawV n) :
    R_init cRow cPl C [.ref p, .str nm, .int n, .str (textV chs)] [ri p C [] []] (.one .non [ri p C mN [.str nm, .int n, .tup (chs.map rowD)]]) := by
  have hne : chs ≠ [] := fun z => by rw [z] at h1; simp at h1
  have hl : (textV chs).length ≤ 9 * chs.length := text_len fun q hq => by
    have := (okP_len ((heap_fine n n3 (by omega)).2.2 q (h q hq)).1).1
    omega
  have e : (textV chs).cps.toList = textL chs := List.toList_toArray
  refine ⟨p, nm, n, textV chs, .one (.tup (chs.map rowD)) [], ⟨textV chs, n, by omega, by omega, rfl, rfl, Or.inl ⟨⟨n3, by omega⟩, fun z => ?_, fun _ q hq => ?_, ?_⟩⟩, rfl, rfl, Or.inl ⟨chs, rfl, rfl⟩⟩
  · rw [e] at z
    exact (text_44 n3 (by omega) h z).elim
  · have := part_short hq
    omega
  · rw [text_back n3 (by omega) hne h]
    show _ = if 0 < chs.length ∧ chs.length ≤ 400 then _ else _
    rw [if_pos ⟨by omega, by omega⟩]
end Bs
namespace Bs
open PySem PySem.Spec PyProof.Rows L2 DL GX GxR DY
theorem crs_mul (ps : List (List Int)) (n : Nat) : ∀ (f : Nat) (row : List Int), ∃ m : Nat, (crsF ps n f row).length = m * ps.length
  | 0, row => ⟨1, by rw [crsF, lead_len]; omega⟩
  | f + 1, row => by
    rw [crsF]
    split
    · exact ⟨1, by rw [List.length_append, lead_len]; simp⟩
    · obtain ⟨m, h⟩ := crs_mul ps n f (headV ps row)
      exact ⟨m + 1, by rw [List.length_append, lead_len, h, Nat.add_mul]; omega⟩
theorem leads_mul {chs : List (List Int)} (n : Nat) (h : 1 ≤ chs.length) : ((courseV chs n).length : Int) / (chs.length : Int) * (chs.length : Int) = ((courseV chs n).length : Int) := by
  obtain ⟨m, e⟩ := crs_mul chs n 5040 (rng n)
  have e' : (courseV chs n).length = m * chs.length := e
  rw [e']
  have h0 : (chs.length : Int) ≠ 0 := by omega
  rw [Int.natCast_mul, Int.mul_ediv_cancel _ h0]
end Bs
namespace Bs
open PySem PySem.Spec PyProof.Rows L2 DL GX GxR DY
/-! ### what a lead's rows make of each other -/
theorem due_row {n : Nat} {one other : List Int} (h : other.length = n) : (rng n).map (fun b => one.getD (other.idxOf b) 0) = perm one (und other) := by
  subst h
  unfold perm und
  rw [List.map_map]
  refine List.map_congr_left fun b _ => ?_
  show one.getD (other.idxOf b) 0 = one.getD (((other.idxOf b : Nat) : Int) + 1 - 1).toNat 0
  rw [show (((other.idxOf b : Nat) : Int) + 1 - 1).toNat = other.idxOf b by omega]
theorem lead_map (f : Int → Int) : ∀ (ps : List (List Int)) (l : List Int), leadV ps (l.map f) = (leadV ps l).map fun r => r.map f
  | [], _ => rfl
  | p :: ps, l => by
    rw [leadV, leadV, chg_map, lead_map f ps, List.map_cons]
/-- a lead behind any row is the lead behind rounds, permuted -/
theorem lead_from {n : Nat} {chs : List (List Int)} {x : List Int} (h : x.length = n) : leadV chs x = (leadV chs (rng n)).map fun r => perm x r := by
  have e : x = (rng n).map fun i => x.getD (i - 1).toNat 0 := by
    subst h
    exact (self_map x).symm
  conv => lhs; rw [e]
  rw [lead_map]
  rfl
theorem perm_assoc {a b c : List Int} (hb : b.length = c.length) (hc : good c) : perm (perm a b) c = perm a (perm b c) := by
  unfold perm
  rw [List.map_map]
  refine List.map_congr_left fun i hi => ?_
  have hm := (good_mem hc).mp hi
  have hlt : (i - 1).toNat < b.length := by omega
  show (b.map fun i => a.getD (i - 1).toNat 0).getD (i - 1).toNat 0 = a.getD (b.getD (i - 1).toNat 0 - 1).toNat 0
  rw [List.getD_eq_getElem?_getD, List.getElem?_map, List.getElem?_eq_getElem hlt, List.getD_eq_getElem?_getD (l := b), List.getElem?_eq_getElem hlt]
  rfl
theorem perm_rng {a : List Int} : perm a (rng a.length) = a := self_map a
theorem again_in {n : Nat} {chs : List (List Int)} (h : metOk n chs) {x : List Int} (hx : x ∈ fhK (leadV chs (rng n))) : ∃ r ∈ leadV chs x, r ∈ leadV chs (rng n) := by
  unfold fhK at hx
  obtain ⟨a, ha, hx⟩ := List.mem_flatMap.mp hx
  obtain ⟨b, hb, rfl⟩ := List.mem_map.mp hx
  have pa := lead_perm _ _ a ha
  have pb := lead_perm _ _ b hb
  have la : a.length = n := by rw [pa.length_eq, rng_len]
  have lb : b.length = n := by rw [pb.length_eq, rng_len]
  have gb : good b := good_of (by have := h.1.1; omega) (by have := h.1.2; omega) (by rw [lb]; exact pb)
  have hl : (perm a (und b)).length = n := by
    show ((und b).map _).length = n
    rw [List.length_map, und_len, lb]
  refine ⟨a, ?_, ha⟩
  rw [lead_from hl]
  refine List.mem_map.mpr ⟨b, hb, ?_⟩
  show perm (perm a (und b)) b = a
  rw [perm_assoc (by rw [und_len]) gb, und_perm gb, lb, ← la, perm_rng]
theorem fh_perm {n : Nat} {chs : List (List Int)} (h : metOk n chs) {x : List Int} (hx : x ∈ fhK (leadV chs (rng n))) : x.Perm (rng n) := by
  unfold fhK at hx
  obtain ⟨a, ha, hx⟩ := List.mem_flatMap.mp hx
  obtain ⟨b, hb, rfl⟩ := List.mem_map.mp hx
  have pa := lead_perm _ _ a ha
  have pb := lead_perm _ _ b hb
  have la : a.length = n := by rw [pa.length_eq, rng_len]
  have lb : b.length = n := by rw [pb.length_eq, rng_len]
  have gb : good b := good_of (by have := h.1.1; omega) (by have := h.1.2; omega) (by rw [lb]; exact pb)
  have ga : good a := good_of (by have := h.1.1; omega) (by have := h.1.2; omega) (by rw [la]; exact pa)
  have g := perm_good ga (und_good gb) (by rw [und_len]; omega)
  have hl : (perm a (und b)).length = n := by
    show ((und b).map _).length = n
    rw [List.length_map, und_len, lb]
  have := good_perm g
  rw [hl] at this
  exact this
theorem nub_sub : ∀ (l acc : List (List Int)) (x : List Int), x ∈ putsK acc l → x ∈ acc ∨ x ∈ l
  | [], acc, x, h => Or.inl h
  | k :: l, acc, x, h => by
    have h : x ∈ putsK (DL.putK acc k) l := h
    rcases nub_sub l _ x h with z | z
    · unfold DL.putK at z
      split at z
      · exact Or.inl z
      · rcases List.mem_append.mp z with z | z
        · exact Or.inl z
        · exact Or.inr (List.mem_singleton.mp z ▸ List.mem_cons_self)
    · exact Or.inr (List.mem_cons_of_mem _ z)
/-- the false heads -/
theorem srt_sub {l : List (List Int)} {x : List Int} (h : x ∈ srtR (nubR l)) : x ∈ l := by
  have h2 := (isort_perm (lt := lexI) _).mem_iff.mp h
  rcases nub_sub l [] x h2 with z | z
  · cases z
  · exact z
/-! ### lists of lists of numbers, equal to themselves -/
abbrev ilD (l : List Int) : D := .lst (l.map D.int)
theorem nbs_il : ∀ l : List (List Int), nbs (l.map ilD) = true
  | [] => rfl
  | a :: l => by
    rw [List.map_cons, nbs, nbs_il l, show nb (ilD a) = nbs (a.map D.int) from rfl, nb_ints]
    rfl
theorem pls_il : ∀ l : List (List Int), pls (l.map ilD) = true
  | [] => rfl
  | a :: l => by
    rw [List.map_cons, pls, pls_il l, show pl (ilD a) = pls (a.map D.int) from rfl, pl_ints]
    rfl
theorem deps_il : ∀ l : List (List Int), deps (l.map ilD) ≤ 1
  | [] => Nat.zero_le _
  | a :: l => by
    rw [List.map_cons, deps, show dep (ilD a) = deps (a.map D.int) + 1 from rfl, dep_ints]
    have := deps_il l
    omega
theorem sh_ils (l : List (List Int)) : sh (.lst (l.map ilD)) = true := by
  have h1 := pls_il l
  have h2 := deps_il l
  unfold sh
  rw [show pl (.lst (l.map ilD)) = pls (l.map ilD) from rfl, h1, show dep (.lst (l.map ilD)) = deps (l.map ilD) + 1 from rfl]
  simp
  omega
theorem eq_ils (l : List (List Int)) : eqD (.lst (l.map ilD)) (.lst (l.map ilD)) = true :=
  (eqD_iff (by rw [show nb (.lst (l.map ilD)) = nbs (l.map ilD) from rfl, nbs_il]) (by rw [show nb (.lst (l.map ilD)) = nbs (l.map ilD) from rfl, nbs_il])).mpr rfl
end Bs
namespace Bs
open PySem PySem.Spec PyProof.Rows L2 DL GX GxR LmX DY RD





/-! ### what cannot be -/
def lamOf (cs : List (Str × Addr)) : Expr → LInfo
  | .Lambda params body scope _ => ⟨("law.<locals>.<lambda>" : Str), params, body, scope, cloFrom cs scope.names []⟩
  | e => ⟨("" : Str), default, e, default, []⟩
def valOf : Stmt → List Expr
  | .Assign _ (.List es _) _ => es
  | _ => []
def badE : List Expr := valOf ((defBody s_law).getD 3 (.Pass ⟨0, 0, 0, 0⟩))
def badI (cs : List (Str × Addr)) : List LInfo := badE.map (lamOf cs)
def noI : LInfo := lamOf [] (.Constant .none 0 ⟨0, 0, 0, 0⟩)
abbrev bI (cs : List (Str × Addr)) (i : Nat) : LInfo := (badI cs).getD i noI
theorem bad_len (cs : List (Str × Addr)) : (badI cs).length = 7 := by
  unfold badI
  rw [List.length_map]
  decide +kernel
abbrev lawN : List Str := ["script", "signs", "dice", "bells", "heap", "plain", "changes", "k", "text", "place", "one", "method", "rows", "lead", "head", "row", "bell", "due", "other", "start", "again", "little", "large", "bad", "f"]
abbrev chL : List (List Int) := [[], [1, 6], [], [1, 6], [], [1, 6], [], [1, 6], [], [1, 6], [], [1, 2]]
abbrev chG : List (List Int) := [[9], [1], [9], [9]]
theorem init_L {cRow cPl C p : Addr} : R_init cRow cPl C [.ref p, .str "little", .int 6, .str "x16x16x16,12"] [ri p C [] []] (.one .non [ri p C mN [.str "little", .int (6 : Nat), .tup (chL.map rowD)]]) := by
  have h1 : chgsV 6 "x16x16x16,12" = some chL := by decide +kernel
  refine ⟨p, "little", 6, "x16x16x16,12", .one (.tup (chL.map rowD)) [], ⟨"x16x16x16,12", 6, by decide +kernel, by decide, rfl, rfl, Or.inl ⟨⟨by decide, by decide⟩, fun _ => by decide +kernel, fun z => absurd (by decide +kernel) z, ?_⟩⟩, rfl, rfl, Or.inl ⟨chL, rfl, rfl⟩⟩
  rw [h1]
  simp only
  rw [if_pos (by decide)]
theorem init_G {cRow cPl C p : Addr} : R_init cRow cPl C [.ref p, .str "large", .int 9, .str "9.1,9"] [ri p C [] []] (.one .non [ri p C mN [.str "large", .int (9 : Nat), .tup (chG.map rowD)]]) := by
  have h1 : chgsV 9 "9.1,9" = some chG := by decide +kernel
  refine ⟨p, "large", 9, "9.1,9", .one (.tup (chG.map rowD)) [], ⟨"9.1,9", 9, by decide +kernel, by decide, rfl, rfl, Or.inl ⟨⟨by decide, by decide⟩, fun _ => by decide +kernel, fun z => absurd (by decide +kernel) z, ?_⟩⟩, rfl, rfl, Or.inl ⟨chG, rfl, rfl⟩⟩
  rw [h1]
  simp only
  rw [if_pos (by decide)]
theorem metOk_L : metOk 6 chL := ⟨by decide, by decide, by decide +kernel⟩
theorem metOk_G : metOk 9 chG := ⟨by decide, by decide, by decide +kernel⟩
theorem head_L : headV chL (rng 6) = [1, 3, 5, 2, 6, 4] := by decide +kernel
theorem len_L : (courseV chL 6).length = 60 := by decide +kernel
theorem cB_L : chL.length ≤ 12 ∧ (courseV chL 6).length ≤ 45369 := ⟨by decide, by rw [len_L]; decide⟩
theorem nub_L : (nubR (courseV chL 6)).length = 60 := by decide +kernel
theorem hunt_L : huntV 6 (headV chL (rng 6)) = [1] := by decide +kernel
theorem kind_L : kindV 6 (huntV 6 (headV chL (rng 6))) (pathV chL 6 1) = "plain" := by decide +kernel
theorem even_L : chL.dropLast = chL.dropLast.reverse := by decide +kernel
theorem init_bad {cRow cPl C p : Addr} {nm z : Str} {n : Nat} {Ce : Addr} (h : R_changes_of cRow cPl [.str z, .int n] [] (.err Ce [])) : ∃ rz, R_init cRow cPl C [.ref p, .str nm, .int n, .str z] [ri p C [] []] (.err Ce rz) :=
  ⟨_, p, nm, n, z, _, h, rfl, rfl, Or.inr ⟨Ce, rfl, rfl⟩⟩
section
variable {P : Program} {w : World} {K : PySem.W.Frag} {mg : Str → Option Value} {base : Heap} {T : Tb} {cRow cPl cM cE cBell : Addr} {f c Pt : Addr} {g : G} {r : Rs}
abbrev XL (P : Program) (w : World) (K : PySem.W.Frag) (mg : Str → Option Value) (base : Heap) (f c : Addr) (A : Around) (outer : List Env) (s : Shared) (H : Hp) (E : XK) : Cx := cxOf (L2.CX P w) P w K mg base lawN "law" (defScope s_law) f (.ref c) A outer s H E
variable {A : Around} {outer : List Env} {s : Shared} {H : Hp} {E : XK}
def LamBad (X : Cx) (T : Tb) (K : PySem.W.Frag) (cBell : Addr) (g : G) (I : LInfo) : Prop := ∃ (t : XK → TE) (C : Addr), BodyOk X 8 I t ∧ PySem.W.exmOne K (.ref C) (.ref cBell) = some true ∧ ∀ (E : XK) (r : Rs), EvX T K E (t E) g r C r
theorem lam_0 (hx : PySem.W.exmOne K (.ref cPl) (.ref cBell) = some true) (c_init : CalI P w K mg base T cM "Method" 7 ["self", "name", "bells", "text"] (R_init cRow cPl cM)) : LamBad (XL P w K mg base f c A outer s H E) T K cBell g (bI (XL P w K mg base f c A outer s H E).env.cells 0) := by
  refine ⟨fun E => _, cPl, ?_, hx, fun E r => ex_make (n := 4) (fun p => init_bad (cRow := cRow) (cPl := cPl) (C := cM) (nm := "a") (n := 6) (Ce := cPl) ⟨"", 6, by decide +kernel, by decide, rfl, rfl, Or.inl ⟨⟨by decide, by decide⟩, fun z => absurd z (by decide +kernel), fun _ => by decide +kernel, by rw [show chgsV 6 "" = none by decide +kernel]⟩⟩) (ea_cons ev_str (ea_cons ev_int (ea_cons ev_str ea_nil)))⟩
  obtain ⟨f1, fd1, o_Method___init__, mk_Method, m_Method, b_Method___init__⟩ := c_init.ex
  exact ⟨rfl, rfl, LamX.lamS_by (by kernel_rfl), fun _ _ _ _ _ => rfl, fun A outer s H E f c' hr => (pe_make mk_Method o_Method___init__ (hr.mono (by decide)) (by rfl) m_Method b_Method___init__ .nil (passes_call (takes_of (E := E) rfl rfl rfl rfl) (fun _ _ _ _ h => h)) (pa_cons pe_str (pa_cons pe_int (pa_cons pe_str pa_nil))))⟩
theorem lam_1 (hx : PySem.W.exmOne K (.ref cRow) (.ref cBell) = some true) (c_init : CalI P w K mg base T cM "Method" 7 ["self", "name", "bells", "text"] (R_init cRow cPl cM)) : LamBad (XL P w K mg base f c A outer s H E) T K cBell g (bI (XL P w K mg base f c A outer s H E).env.cells 1) := by
  refine ⟨fun E => _, cRow, ?_, hx, fun E r => ex_make (n := 4) (fun p => init_bad (cRow := cRow) (cPl := cPl) (C := cM) (nm := "a") (n := 2) (Ce := cRow) ⟨"x", 2, by decide +kernel, by decide, rfl, rfl, Or.inr ⟨by decide, rfl, rfl⟩⟩) (ea_cons ev_str (ea_cons ev_int (ea_cons ev_str ea_nil)))⟩
  obtain ⟨f1, fd1, o_Method___init__, mk_Method, m_Method, b_Method___init__⟩ := c_init.ex
  exact ⟨rfl, rfl, LamX.lamS_by (by kernel_rfl), fun _ _ _ _ _ => rfl, fun A outer s H E f c' hr => (pe_make mk_Method o_Method___init__ (hr.mono (by decide)) (by rfl) m_Method b_Method___init__ .nil (passes_call (takes_of (E := E) rfl rfl rfl rfl) (fun _ _ _ _ h => h)) (pa_cons pe_str (pa_cons pe_int (pa_cons pe_str pa_nil))))⟩
theorem lam_2 (hx : PySem.W.exmOne K (.ref cPl) (.ref cBell) = some true) (c_init : CalI P w K mg base T cM "Method" 7 ["self", "name", "bells", "text"] (R_init cRow cPl cM)) : LamBad (XL P w K mg base f c A outer s H E) T K cBell g (bI (XL P w K mg base f c A outer s H E).env.cells 2) := by
  refine ⟨fun E => _, cPl, ?_, hx, fun E r => ex_make (n := 4) (fun p => init_bad (cRow := cRow) (cPl := cPl) (C := cM) (nm := "a") (n := 6) (Ce := cPl) ⟨"2.7", 6, by decide +kernel, by decide, rfl, rfl, Or.inl ⟨⟨by decide, by decide⟩, fun z => absurd z (by decide +kernel), fun _ => by decide +kernel, by rw [show chgsV 6 "2.7" = none by decide +kernel]⟩⟩) (ea_cons ev_str (ea_cons ev_int (ea_cons ev_str ea_nil)))⟩
  obtain ⟨f1, fd1, o_Method___init__, mk_Method, m_Method, b_Method___init__⟩ := c_init.ex
  exact ⟨rfl, rfl, LamX.lamS_by (by kernel_rfl), fun _ _ _ _ _ => rfl, fun A outer s H E f c' hr => (pe_make mk_Method o_Method___init__ (hr.mono (by decide)) (by rfl) m_Method b_Method___init__ .nil (passes_call (takes_of (E := E) rfl rfl rfl rfl) (fun _ _ _ _ h => h)) (pa_cons pe_str (pa_cons pe_int (pa_cons pe_str pa_nil))))⟩
theorem lam_3 (hx : PySem.W.exmOne K (.ref cE) (.ref cBell) = some true) (h21 : g[21]? = some (some (metD cM "little" 6 chL))) (CM : ClsM K cM) (c_path : CalM P w K mg base T cM "path" 6 ["self", "bell"] (R_path cE cM)) : LamBad (XL P w K mg base f c A outer s H E) T K cBell g (bI (XL P w K mg base f c A outer s H E).env.cells 3) := by
  refine ⟨fun E => _, cE, ?_, hx, fun E r => ex_meth (m := "path") (n := 2) (R := R_path cE cM) ⟨"little", 6, chL, 0, metOk_L, rfl, rfl, (oc_n (by decide)).symm⟩ (ev_var h21) in_f (ea_cons ev_int ea_nil)⟩
  obtain ⟨f8, fd8, o_Method_path, me_Method_path, b_Method_path⟩ := c_path.ex
  have cl_Method := CM.c
  exact ⟨rfl, rfl, LamX.lamS_by (by kernel_rfl), fun _ _ _ _ _ => rfl, fun A outer s H E f c' hr => (pe_meth (pv 21) cl_Method me_Method_path o_Method_path (hr.mono (by decide)) b_Method_path .nil (passes_call (takes_of (E := E) rfl rfl rfl rfl) (fun _ _ _ _ h => h)) (pa_cons pe_int pa_nil))⟩
theorem lam_4 (hx : PySem.W.exmOne K (.ref cE) (.ref cBell) = some true) (h21 : g[21]? = some (some (metD cM "little" 6 chL))) (CM : ClsM K cM) (c_path : CalM P w K mg base T cM "path" 6 ["self", "bell"] (R_path cE cM)) : LamBad (XL P w K mg base f c A outer s H E) T K cBell g (bI (XL P w K mg base f c A outer s H E).env.cells 4) := by
  refine ⟨fun E => _, cE, ?_, hx, fun E r => ex_meth (m := "path") (n := 2) (R := R_path cE cM) ⟨"little", 6, chL, 7, metOk_L, rfl, rfl, (oc_n (by decide)).symm⟩ (ev_var h21) in_f (ea_cons ev_int ea_nil)⟩
  obtain ⟨f8, fd8, o_Method_path, me_Method_path, b_Method_path⟩ := c_path.ex
  have cl_Method := CM.c
  exact ⟨rfl, rfl, LamX.lamS_by (by kernel_rfl), fun _ _ _ _ _ => rfl, fun A outer s H E f c' hr => (pe_meth (pv 21) cl_Method me_Method_path o_Method_path (hr.mono (by decide)) b_Method_path .nil (passes_call (takes_of (E := E) rfl rfl rfl rfl) (fun _ _ _ _ h => h)) (pa_cons pe_int pa_nil))⟩
theorem lam_5 (hx : PySem.W.exmOne K (.ref cE) (.ref cBell) = some true) (h22 : g[22]? = some (some (metD cM "large" 9 chG))) (c_false : Cal P w K mg base T "false_heads" 6 ["method"] (R_false cE cM)) : LamBad (XL P w K mg base f c A outer s H E) T K cBell g (bI (XL P w K mg base f c A outer s H E).env.cells 5) := by
  refine ⟨fun E => _, cE, ?_, hx, fun E r => ex_callC (n := 1) (R := R_false cE cM) ⟨"large", 9, chG, metOk_G, by decide, rfl, rfl, by rw [if_neg (by decide)]⟩ (ea_cons (ev_var h22) ea_nil) rfl⟩
  obtain ⟨f12, fd12, o_false_heads, m_false_heads, k_false_heads, b_false_heads⟩ := c_false.ex
  exact ⟨rfl, rfl, LamX.lamS_by (by kernel_rfl), fun _ _ _ _ _ => rfl, fun A outer s H E f c' hr => (pe_call o_false_heads (hr.mono (by decide)) (by rfl) m_false_heads k_false_heads b_false_heads .nil (passes_call (takes_of (E := E) rfl rfl rfl rfl) (fun _ _ _ _ h => h)) (pa_cons (pv 22) pa_nil))⟩
theorem lam_6 (hx : PySem.W.exmOne K (.ref cPl) (.ref cBell) = some true) (h21 : g[21]? = some (some (metD cM "little" 6 chL))) (CM : ClsM K cM) (c_lead : CalM P w K mg base T cM "lead" 5 ["self", "row"] (R_lead cPl cM)) : LamBad (XL P w K mg base f c A outer s H E) T K cBell g (bI (XL P w K mg base f c A outer s H E).env.cells 6) := by
  refine ⟨fun E => _, cPl, ?_, hx, fun E r => ex_meth (m := "lead") (n := 2) (R := R_lead cPl cM) ⟨"little", 6, chL, [1, 2, 3], by decide, good_of (by decide) (by decide) (by decide), by decide, rfl, rfl, Or.inr ⟨⟨[], _, rfl, by decide +kernel⟩, rfl⟩⟩ (ev_var h21) in_f (ea_cons (ev_tup (ea_cons ev_int (ea_cons ev_int (ea_cons ev_int ea_nil))) (by simp)) ea_nil)⟩
  obtain ⟨f2, fd2, o_Method_lead, me_Method_lead, b_Method_lead⟩ := c_lead.ex
  have cl_Method := CM.c
  exact ⟨rfl, rfl, LamX.lamS_by (by kernel_rfl), fun _ _ _ _ _ => rfl, fun A outer s H E f c' hr => (pe_meth (pv 21) cl_Method me_Method_lead o_Method_lead (hr.mono (by decide)) b_Method_lead .nil (passes_call (takes_of (E := E) rfl rfl rfl rfl) (fun _ _ _ _ h => h)) (pa_cons (pe_tup (pa_cons pe_int (pa_cons pe_int (pa_cons pe_int pa_nil)))) pa_nil))⟩
theorem lam_all (hx1 : PySem.W.exmOne K (.ref cRow) (.ref cBell) = some true) (hx2 : PySem.W.exmOne K (.ref cPl) (.ref cBell) = some true) (hx3 : PySem.W.exmOne K (.ref cE) (.ref cBell) = some true) (h21 : g[21]? = some (some (metD cM "little" 6 chL))) (h22 : g[22]? = some (some (metD cM "large" 9 chG))) (CM : ClsM K cM)
    (c_init : CalI P w K mg base T cM "Method" 7 ["self", "name", "bells", "text"] (R_init cRow cPl cM)) (c_lead : CalM P w K mg base T cM "lead" 5 ["self", "row"] (R_lead cPl cM)) (c_path : CalM P w K mg base T cM "path" 6 ["self", "bell"] (R_path cE cM)) (c_false : Cal P w K mg base T "false_heads" 6 ["method"] (R_false cE cM)) :
    ∀ I ∈ badI (XL P w K mg base f c A outer s H E).env.cells, LamBad (XL P w K mg base f c A outer s H E) T K cBell g I := fun I hI => by
  obtain ⟨i, hi, rfl⟩ := List.mem_iff_getElem.mp hI
  have e : ∀ (cs : List (Str × Addr)) (h : i < (badI cs).length), (badI cs)[i] = bI cs i := fun cs h => by
    show _ = (badI cs).getD i noI
    rw [List.getD_eq_getElem?_getD, List.getElem?_eq_getElem h]
    rfl
  rw [e]
  rw [bad_len] at hi
  match i, hi with
  | 0, _ => exact lam_0 hx2 c_init
  | 1, _ => exact lam_1 hx1 c_init
  | 2, _ => exact lam_2 hx2 c_init
  | 3, _ => exact lam_3 hx3 h21 CM c_path
  | 4, _ => exact lam_4 hx3 h21 CM c_path
  | 5, _ => exact lam_5 hx3 h22 c_false
  | 6, _ => exact lam_6 hx2 h21 CM c_lead
end
end Bs
namespace Bs
open PySem PySem.Spec PyProof.Rows L2 DL GX GxR LmX DY RD























section
variable {P : Program} {w : World} {K : PySem.W.Frag} {mg : Str → Option Value} {base : Heap} {T : Tb} {cRow cPl cM cE cBell : Addr} {f c Pt : Addr} {fd : FuncData} {uS uM : Value}
theorem sc_law : FnScope ["script", "signs", "dice", "bells", "heap", "plain", "changes", "k", "text", "place", "one", "method", "rows", "lead", "head", "row", "bell", "due", "other", "start", "again", "little", "large", "bad", "f"] ["script"] (defScope s_law) := ⟨rfl, rfl, rfl, by decide +kernel, rfl, by decide +kernel, by decide +kernel⟩
def R_law : Rel := fun ds r o => ∃ ns : List Int, ds = [.lsq (ns.map D.int)] ∧ r = [] ∧ o = .one (.bl true) []
theorem ok_law (F : Fun K "law" "law" s_law f fd) (hc : fd.code = .ref c) (B : Bi mg) (CM : ClsM K cM) (TBlaw : LamX.TabB base mg c Pt)
    (hmT : (Pt, ("law.<locals>.<lambda>" : Str)) ∈ T.ls) (huT : ∀ p ∈ T.ls, p.1 = Pt → p.2 = ("law.<locals>.<lambda>" : Str)) (hx1 : PySem.W.exmOne K (.ref cRow) (.ref cBell) = some true) (hx2 : PySem.W.exmOne K (.ref cPl) (.ref cBell) = some true) (hx3 : PySem.W.exmOne K (.ref cE) (.ref cBell) = some true) {fT : Addr} (F__law_told : LmX.ToldF K mg "_law_told" fT cBell "BellError")
    (c_init : CalI P w K mg base T cM "Method" 7 ["self", "name", "bells", "text"] (R_init cRow cPl cM)) (c_lead : CalM P w K mg base T cM "lead" 5 ["self", "row"] (R_lead cPl cM)) (c_head : CalM P w K mg base T cM "head" 6 ["self"] (R_head cM)) (c_course : CalM P w K mg base T cM "course" 6 ["self"] (R_course cM)) (c_leads : CalM P w K mg base T cM "leads" 7 ["self"] (R_leads cM)) (c_true : CalM P w K mg base T cM "is_true" 7 ["self"] (R_is_true cM)) (c_hunters : CalM P w K mg base T cM "hunters" 7 ["self"] (R_hunters cM)) (c_path : CalM P w K mg base T cM "path" 6 ["self", "bell"] (R_path cE cM)) (c_even : CalM P w K mg base T cM "is_even_sided" 1 ["self"] (R_even cM)) (c_blows : CalM P w K mg base T cM "most_blows" 7 ["self"] (R_blows cM)) (c_kind : CalM P w K mg base T cM "kind" 8 ["self"] (R_kind cM))
    (c_false : Cal P w K mg base T "false_heads" 6 ["method"] (R_false cE cM)) (c_rounds2 : Cal P w K mg base T "_law_rounds" 2 ["script", "most"] R_rounds2) (c_roll : Cal P w K mg base T "_law_roll" 1 ["dice", "many"] R_roll)
    (c_lchanges : Cal P w K mg base T "_law_changes" 1 ["bells"] R_lchanges) (c_llead : Cal P w K mg base T "_law_lead" 2 ["row", "changes"] R_llead) (c_lcourse : Cal P w K mg base T "_law_course" 3 ["bells", "changes"] R_lcourse) (c_lkind : Cal P w K mg base T "_law_kind" 3 ["bells", "changes"] R_lkind) (c_lblows : Cal P w K mg base T "_law_blows" 8 ["rows", "bells"] R_lblows) : FnOk P w K mg base (L2.CX P w) 11 f fd ["script"] (spR T K 1 R_law) := by
  obtain ⟨f1, fd1, o_Method___init__, mk_Method, m_Method, b_Method___init__⟩ := c_init.ex
  obtain ⟨f2, fd2, o_Method_lead, me_Method_lead, b_Method_lead⟩ := c_lead.ex
  obtain ⟨f3, fd3, o_Method_head, me_Method_head, b_Method_head⟩ := c_head.ex
  obtain ⟨f4, fd4, o_Method_course, me_Method_course, b_Method_course⟩ := c_course.ex
  obtain ⟨f5, fd5, o_Method_leads, me_Method_leads, b_Method_leads⟩ := c_leads.ex
  obtain ⟨f6, fd6, o_Method_is_true, me_Method_is_true, b_Method_is_true⟩ := c_true.ex
  obtain ⟨f7, fd7, o_Method_hunters, me_Method_hunters, b_Method_hunters⟩ := c_hunters.ex
  obtain ⟨f8, fd8, o_Method_path, me_Method_path, b_Method_path⟩ := c_path.ex
  obtain ⟨f9, fd9, o_Method_is_even_sided, me_Method_is_even_sided, b_Method_is_even_sided⟩ := c_even.ex
  obtain ⟨f10, fd10, o_Method_most_blows, me_Method_most_blows, b_Method_most_blows⟩ := c_blows.ex
  obtain ⟨f11, fd11, o_Method_kind, me_Method_kind, b_Method_kind⟩ := c_kind.ex
  obtain ⟨f12, fd12, o_false_heads, m_false_heads, k_false_heads, b_false_heads⟩ := c_false.ex
  obtain ⟨f13, fd13, o__law_rounds, m__law_rounds, k__law_rounds, b__law_rounds⟩ := c_rounds2.ex
  obtain ⟨f14, fd14, o__law_roll, m__law_roll, k__law_roll, b__law_roll⟩ := c_roll.ex
  obtain ⟨f15, fd15, o__law_changes, m__law_changes, k__law_changes, b__law_changes⟩ := c_lchanges.ex
  obtain ⟨f16, fd16, o__law_lead, m__law_lead, k__law_lead, b__law_lead⟩ := c_llead.ex
  obtain ⟨f17, fd17, o__law_course, m__law_course, k__law_course, b__law_course⟩ := c_lcourse.ex
  obtain ⟨f18, fd18, o__law_kind, m__law_kind, k__law_kind, b__law_kind⟩ := c_lkind.ex
  obtain ⟨f19, fd19, o__law_blows, m__law_blows, k__law_blows, b__law_blows⟩ := c_lblows.ex
  have cl_Method := CM.c
  refine okC F hc sc_law spR_len (fun A outer s H vs Q E hr h => ⟨_, (pss_cons (ps_set (i := 1) sc_law.nd rfl (by first | exact Or.inl rfl | exact Or.inr rfl) pe_str)
      (pss_cons (ps_for (passes_of rfl) rfl (pi_list (pe_call o__law_rounds (hr.mono (by decide)) (by rfl) m__law_rounds k__law_rounds b__law_rounds .nil (passes_call (takes_of (E := E) rfl rfl rfl rfl) (fun _ _ _ _ h => h)) (pa_cons (pv 0) (pa_cons pe_int pa_nil)))) (pg_name (i := 2) sc_law.nd rfl (by first | exact Or.inl rfl | exact Or.inr rfl)) (pss_cons (ps_set (i := 3) sc_law.nd rfl (by first | exact Or.inl rfl | exact Or.inr rfl) (pe_op op_add pe_int (pe_call o__law_roll (hr.mono (by decide)) (by rfl) m__law_roll k__law_roll b__law_roll .nil (passes_call (takes_of (E := E) rfl rfl rfl rfl) (fun _ _ _ _ h => h)) (pa_cons (pv 2) (pa_cons pe_int pa_nil)))))
      (pss_cons (ps_asg (pe_tup (pa_cons (pe_call o__law_changes (hr.mono (by decide)) (by rfl) m__law_changes k__law_changes b__law_changes .nil (passes_call (takes_of (E := E) rfl rfl rfl rfl) (fun _ _ _ _ h => h)) (pa_cons (pv 3) pa_nil)) (pa_cons (pe_tupRg rfl (by rfl) B.tuple (prg_2 (by rfl) B.range pe_int (pe_op op_add (pv 3) pe_int))) pa_nil))) (pg_tup (by rfl) (pgs_cons (pg_name (i := 4) sc_law.nd rfl (by first | exact Or.inl rfl | exact Or.inr rfl)) (pgs_cons (pg_name (i := 5) sc_law.nd rfl (by first | exact Or.inl rfl | exact Or.inr rfl)) pgs_nil))))
      (pss_cons (ps_setLc (i := 6) (own := [("k", 7)]) rfl sc_law.nd rfl rfl (sw_true rfl rfl rfl (by decide +kernel)) (pi_range1 rfl B.range (pa_cons (pe_op op_add pe_int (pe_call o__law_roll (hr.mono (by decide)) (by rfl) m__law_roll k__law_roll b__law_roll .nil (passes_call (takes_of (E := E) rfl rfl rfl rfl) (fun _ _ _ _ h => h)) (pa_cons (pv 2) (pa_cons pe_int pa_nil)))) pa_nil)) (blkOk_by (N := ["script", "signs", "dice", "bells", "heap", "plain", "changes", "k", "text", "place", "one", "method", "rows", "lead", "head", "row", "bell", "due", "other", "start", "again", "little", "large", "bad", "f"]) (by kernel_rfl)) (fun _ _ _ _ _ => (pg_name (i := 7) sc_law.nd rfl (by first | exact Or.inl rfl | exact Or.inr rfl))) (fun _ _ _ _ _ => pts_nil) (fun _ _ _ _ _ => (pe_ix (r := rIxL K) ix_list (pv 4) (pe_call o__law_roll (hr.mono (by decide)) (by rfl) m__law_roll k__law_roll b__law_roll .nil passL (pa_cons (pv 2) (pa_cons (pe_callB (r := rLenX K) call_len (by rfl) B.len PySem.boot_len (pa_cons (pv 4) pa_nil)) pa_nil))) (fun _ _ => rfl))))
      (pss_cons (ps_if (pt_cmpR op_eq (pe_call o__law_roll (hr.mono (by decide)) (by rfl) m__law_roll k__law_roll b__law_roll .nil (passes_call (takes_of (E := E) rfl rfl rfl rfl) (fun _ _ _ _ h => h)) (pa_cons (pv 2) (pa_cons pe_int pa_nil))) pe_int (nomark _)) (pss_one (ps_set (i := 6) sc_law.nd rfl (by first | exact Or.inl rfl | exact Or.inr rfl) (pe_op op_cat (pe_op op_cat (pe_slice (r := rSlL K) sl_list (pv 6) po_none (po_some pe_int)) (pe_revL (pe_slice (r := rSlL K) sl_list (pe_slice (r := rSlL K) sl_list (pv 6) po_none (po_some pe_int)) po_none (po_some (pe_un un_neg pe_int))))) (pe_lst (pa_cons (pe_ix (r := rIxL K) ix_list (pv 4) (pe_call o__law_roll (hr.mono (by decide)) (by rfl) m__law_roll k__law_roll b__law_roll .nil (passes_call (takes_of (E := E) rfl rfl rfl rfl) (fun _ _ _ _ h => h)) (pa_cons (pv 2) (pa_cons (pe_callB (r := rLenX K) call_len (by rfl) B.len PySem.boot_len (pa_cons (pv 4) pa_nil)) pa_nil))) (fun _ _ => rfl)) pa_nil))))) pss_nil)
      (pss_cons (ps_set (i := 8) sc_law.nd rfl (by first | exact Or.inl rfl | exact Or.inr rfl) (pe_join pe_str (pe_lc (own := [("one", 10)]) rfl sc_law.nd (pi_list (pv 6)) (blkOk_by (N := ["script", "signs", "dice", "bells", "heap", "plain", "changes", "k", "text", "place", "one", "method", "rows", "lead", "head", "row", "bell", "due", "other", "start", "again", "little", "large", "bad", "f"]) (by kernel_rfl)) (fun _ _ _ _ _ => (pg_name (i := 10) sc_law.nd rfl (by first | exact Or.inl rfl | exact Or.inr rfl))) (fun _ _ _ _ _ => pts_nil) (fun _ _ _ _ _ => (pe_ifExp (show PT _ _ (tTest (tOp (rEqD K) _ _)) from pt_cmpR (op_eqD hr.units) (pv 10) (pe_tup pa_nil) (nomark _)) pe_str (show PE _ _ (tM1 (IdT.rJoin K) _ _) from pe_join pe_str (pe_lc (own := [("place", 9)]) rfl sc_law.nd (show PI _ _ _ (iTup K _) from pi_tup (pv 10)) (blkOk_by (N := ["script", "signs", "dice", "bells", "heap", "plain", "changes", "k", "text", "place", "one", "method", "rows", "lead", "head", "row", "bell", "due", "other", "start", "again", "little", "large", "bad", "f"]) (by kernel_rfl)) (fun _ _ _ _ _ => (pg_name (i := 9) sc_law.nd rfl (by first | exact Or.inl rfl | exact Or.inr rfl))) (fun _ _ _ _ _ => pts_nil) (fun _ _ _ _ _ => (pe_ix (r := rIxS) ix_str (pv 1) (pe_op op_sub (pv 9) pe_int) (fun _ _ => rfl))))))))))
      (pss_cons (ps_asg (pe_tup (pa_cons (pe_make mk_Method o_Method___init__ (hr.mono (by decide)) (by rfl) m_Method b_Method___init__ .nil (passes_call (takes_of (E := E) rfl rfl rfl rfl) (fun _ _ _ _ h => h)) (pa_cons pe_str (pa_cons (pv 3) (pa_cons (pv 8) pa_nil)))) (pa_cons (pe_call o__law_course (hr.mono (by decide)) (by rfl) m__law_course k__law_course b__law_course .nil (passes_call (takes_of (E := E) rfl rfl rfl rfl) (fun _ _ _ _ h => h)) (pa_cons (pv 3) (pa_cons (pv 6) pa_nil))) pa_nil))) (pg_tup (by rfl) (pgs_cons (pg_name (i := 11) sc_law.nd rfl (by first | exact Or.inl rfl | exact Or.inr rfl)) (pgs_cons (pg_name (i := 12) sc_law.nd rfl (by first | exact Or.inl rfl | exact Or.inr rfl)) pgs_nil))))
      (pss_cons (ps_set (i := 13) sc_law.nd rfl (by first | exact Or.inl rfl | exact Or.inr rfl) (pe_call o__law_lead (hr.mono (by decide)) (by rfl) m__law_lead k__law_lead b__law_lead .nil (passes_call (takes_of (E := E) rfl rfl rfl rfl) (fun _ _ _ _ h => h)) (pa_cons (pv 5) (pa_cons (pv 6) pa_nil))))
      (pss_cons (ps_set (i := 14) sc_law.nd rfl (by first | exact Or.inl rfl | exact Or.inr rfl) (pe_ix (r := rIxL K) ix_list (pv 13) (pe_op op_sub (pe_callB (r := rLenX K) call_len (by rfl) B.len PySem.boot_len (pa_cons (pv 13) pa_nil)) pe_int) (fun _ _ => rfl)))
      (pss_cons (ps_if (PW.pt (pw_or (pt_cmpR (r := rNeD K) (op_neD hr.units) (pe_callTy (r := rListOfX K) call_list_of (by rfl) B.list (by decide +kernel) (pa_cons (pe_fld (pv 11) rfl) pa_nil)) (pv 6) (nomark _)) (pw_or (pt_cmpR (r := rNeD K) (op_neD hr.units) (pe_callTy (r := rListOfX K) call_list_of (by rfl) B.list (by decide +kernel) (pa_cons (pe_meth (pv 11) cl_Method me_Method_lead o_Method_lead (hr.mono (by decide)) b_Method_lead .nil (passes_call (takes_of (E := E) rfl rfl rfl rfl) (fun _ _ _ _ h => h)) (pa_cons (pv 5) pa_nil)) pa_nil)) (pv 13) (nomark _)) (pw_or (pt_cmpR (r := rNeD K) (op_neD hr.units) (pe_meth0 (pv 11) cl_Method me_Method_head o_Method_head (hr.mono (by decide)) b_Method_head .nil (passes_call (takes_of (E := E) rfl rfl rfl rfl) (fun _ _ _ _ h => h))) (pv 14) (nomark _)) (pw_or (pt_cmpR (r := rNeD K) (op_neD hr.units) (pe_callTy (r := rListOfX K) call_list_of (by rfl) B.list (by decide +kernel) (pa_cons (pe_meth0 (pv 11) cl_Method me_Method_course o_Method_course (hr.mono (by decide)) b_Method_course .nil (passes_call (takes_of (E := E) rfl rfl rfl rfl) (fun _ _ _ _ h => h))) pa_nil)) (pv 12) (nomark _)) (pw_or1 (pt_cmpR op_ne (pe_op op_mul (pe_meth0 (pv 11) cl_Method me_Method_leads o_Method_leads (hr.mono (by decide)) b_Method_leads .nil (passes_call (takes_of (E := E) rfl rfl rfl rfl) (fun _ _ _ _ h => h))) (pe_callB (r := rLenX K) call_len (by rfl) B.len PySem.boot_len (pa_cons (pv 6) pa_nil))) (pe_callB (r := rLenX K) call_len (by rfl) B.len PySem.boot_len (pa_cons (pv 12) pa_nil)) (nomark _)))))))) (pss_one (ps_ret pe_bl)) pss_nil)
      (pss_cons (ps_if (PW.pt (pw_or (pt_cmpR op_ne (pe_meth0 (pv 11) cl_Method me_Method_is_true o_Method_is_true (hr.mono (by decide)) b_Method_is_true .nil (passes_call (takes_of (E := E) rfl rfl rfl rfl) (fun _ _ _ _ h => h))) (pe_cmpR op_eq (pe_callB (r := RD.rLenR K) RD.cr_lenR (by rfl) B.len PySem.boot_len (pa_cons (pe_callTy (r := RD.rDictR K) (RD.cr_dictR rfl (TkO.units20 hr)) (by rfl) B.dict (by decide +kernel) (pa_cons (pe_lc (own := [("row", 15)]) rfl sc_law.nd (pi_list (pv 12)) (blkOk_by (N := ["script", "signs", "dice", "bells", "heap", "plain", "changes", "k", "text", "place", "one", "method", "rows", "lead", "head", "row", "bell", "due", "other", "start", "again", "little", "large", "bad", "f"]) (by kernel_rfl)) (fun _ _ _ _ _ => (pg_name (i := 15) sc_law.nd rfl (by first | exact Or.inl rfl | exact Or.inr rfl))) (fun _ _ _ _ _ => pts_nil) (fun _ _ _ _ _ => (pe_tup (pa_cons (pv 15) (pa_cons pe_int pa_nil))))) pa_nil)) pa_nil)) (pe_callB (r := rLenX K) call_len (by rfl) B.len PySem.boot_len (pa_cons (pv 12) pa_nil)) (nomark _)) (nomark _)) (pw_or1 (pt_cmpR (r := rNeD K) (op_neD hr.units) (pe_callTy (r := rListOfX K) call_list_of (by rfl) B.list (by decide +kernel) (pa_cons (pe_meth0 (pv 11) cl_Method me_Method_hunters o_Method_hunters (hr.mono (by decide)) b_Method_hunters .nil (passes_call (takes_of (E := E) rfl rfl rfl rfl) (fun _ _ _ _ h => h))) pa_nil)) (pe_lc (own := [("bell", 16)]) rfl sc_law.nd (pi_tup (pv 5)) (blkOk_by (N := ["script", "signs", "dice", "bells", "heap", "plain", "changes", "k", "text", "place", "one", "method", "rows", "lead", "head", "row", "bell", "due", "other", "start", "again", "little", "large", "bad", "f"]) (by kernel_rfl)) (fun _ _ _ _ _ => (pg_name (i := 16) sc_law.nd rfl (by first | exact Or.inl rfl | exact Or.inr rfl))) (fun _ _ _ _ _ => (pts_one (pt_cmpR op_eq (pe_ix (r := rIxT K) ix_tup (pv 14) (pe_op op_sub (pv 16) pe_int) (fun _ _ => rfl)) (pv 16) (nomark _)))) (fun _ _ _ _ _ => (pv 16))) (nomark _))))) (pss_one (ps_ret pe_bl)) pss_nil)
      (pss_cons (ps_if (pt_cmpR (r := rNeD K) (op_neD hr.units) (pe_lc (own := [("bell", 16)]) rfl sc_law.nd (pi_tup (pv 5)) (blkOk_by (N := ["script", "signs", "dice", "bells", "heap", "plain", "changes", "k", "text", "place", "one", "method", "rows", "lead", "head", "row", "bell", "due", "other", "start", "again", "little", "large", "bad", "f"]) (by kernel_rfl)) (fun _ _ _ _ _ => (pg_name (i := 16) sc_law.nd rfl (by first | exact Or.inl rfl | exact Or.inr rfl))) (fun _ _ _ _ _ => pts_nil) (fun _ _ _ _ _ => (pe_callTy (r := rListOfX K) call_list_of (by rfl) B.list (by decide +kernel) (pa_cons (pe_meth (pv 11) cl_Method me_Method_path o_Method_path (hr.mono (by decide)) b_Method_path .nil passL (pa_cons (pv 16) pa_nil)) pa_nil)))) (pe_lc (own := [("bell", 16)]) rfl sc_law.nd (pi_tup (pv 5)) (blkOk_by (N := ["script", "signs", "dice", "bells", "heap", "plain", "changes", "k", "text", "place", "one", "method", "rows", "lead", "head", "row", "bell", "due", "other", "start", "again", "little", "large", "bad", "f"]) (by kernel_rfl)) (fun _ _ _ _ _ => (pg_name (i := 16) sc_law.nd rfl (by first | exact Or.inl rfl | exact Or.inr rfl))) (fun _ _ _ _ _ => pts_nil) (fun _ _ _ _ _ => (pe_lc (own := [("row", 15)]) rfl sc_law.nd (show PI _ _ _ (iList K _) from pi_list (pv 13)) (blkOk_by (N := ["script", "signs", "dice", "bells", "heap", "plain", "changes", "k", "text", "place", "one", "method", "rows", "lead", "head", "row", "bell", "due", "other", "start", "again", "little", "large", "bad", "f"]) (by kernel_rfl)) (fun _ _ _ _ _ => (pg_name (i := 15) sc_law.nd rfl (by first | exact Or.inl rfl | exact Or.inr rfl))) (fun _ _ _ _ _ => pts_nil) (fun _ _ _ _ _ => (pe_op op_add (IdT.pe_idxT (pv 15) (pa_cons (pv 16) pa_nil)) pe_int))))) (nomark _)) (pss_one (ps_ret pe_bl)) pss_nil)
      (pss_cons (ps_if (PW.pt (pw_or (pt_cmpR op_ne (pe_meth0 (pv 11) cl_Method me_Method_is_even_sided o_Method_is_even_sided (hr.mono (by decide)) b_Method_is_even_sided .nil (passes_call (takes_of (E := E) rfl rfl rfl rfl) (fun _ _ _ _ h => h))) (pe_cmpR (r := rEqD K) (op_eqD hr.units) (pe_slice (r := rSlL K) sl_list (pv 6) po_none (po_some (pe_un un_neg pe_int))) (pe_revL (pe_slice (r := rSlL K) sl_list (pv 6) po_none (po_some (pe_un un_neg pe_int)))) (nomark _)) (nomark _)) (pw_or (pt_cmpR op_ne (pe_meth0 (pv 11) cl_Method me_Method_most_blows o_Method_most_blows (hr.mono (by decide)) b_Method_most_blows .nil (passes_call (takes_of (E := E) rfl rfl rfl rfl) (fun _ _ _ _ h => h))) (pe_call o__law_blows (hr.mono (by decide)) (by rfl) m__law_blows k__law_blows b__law_blows .nil (passes_call (takes_of (E := E) rfl rfl rfl rfl) (fun _ _ _ _ h => h)) (pa_cons (pv 12) (pa_cons (pv 3) pa_nil))) (nomark _)) (pw_or1 (pt_cmpR op_ne (pe_meth0 (pv 11) cl_Method me_Method_kind o_Method_kind (hr.mono (by decide)) b_Method_kind .nil (passes_call (takes_of (E := E) rfl rfl rfl rfl) (fun _ _ _ _ h => h))) (pe_call o__law_kind (hr.mono (by decide)) (by rfl) m__law_kind k__law_kind b__law_kind .nil (passes_call (takes_of (E := E) rfl rfl rfl rfl) (fun _ _ _ _ h => h)) (pa_cons (pv 3) (pa_cons (pv 6) pa_nil))) (nomark _)))))) (pss_one (ps_ret pe_bl)) pss_nil)
      (pss_cons (ps_set (i := 17) sc_law.nd rfl (by first | exact Or.inl rfl | exact Or.inr rfl) (pe_lst pa_nil))
      (pss_cons (ps_for (passes_of rfl) rfl (pi_list (pv 13)) (pg_name (i := 10) sc_law.nd rfl (by first | exact Or.inl rfl | exact Or.inr rfl)) (pss_one (ps_set (i := 17) sc_law.nd rfl (by first | exact Or.inl rfl | exact Or.inr rfl) (pe_op op_cat (pv 17) (pe_lc (own := [("other", 18)]) rfl sc_law.nd (pi_list (pv 13)) (blkOk_by (N := ["script", "signs", "dice", "bells", "heap", "plain", "changes", "k", "text", "place", "one", "method", "rows", "lead", "head", "row", "bell", "due", "other", "start", "again", "little", "large", "bad", "f"]) (by kernel_rfl)) (fun _ _ _ _ _ => (pg_name (i := 18) sc_law.nd rfl (by first | exact Or.inl rfl | exact Or.inr rfl))) (fun _ _ _ _ _ => pts_nil) (fun _ _ _ _ _ => (show PE _ _ (tThen _ (kTupX K)) from pe_tupX (by rfl) B.tuple (pe_lc (own := [("bell", 16)]) rfl sc_law.nd (show PI _ _ _ (iTup K _) from pi_tup (pv 5)) (blkOk_by (N := ["script", "signs", "dice", "bells", "heap", "plain", "changes", "k", "text", "place", "one", "method", "rows", "lead", "head", "row", "bell", "due", "other", "start", "again", "little", "large", "bad", "f"]) (by kernel_rfl)) (fun _ _ _ _ _ => (pg_name (i := 16) sc_law.nd rfl (by first | exact Or.inl rfl | exact Or.inr rfl))) (fun _ _ _ _ _ => pts_nil) (fun _ _ _ _ _ => (pe_ix (r := rIxT K) ix_tup (pv 10) (IdT.pe_idxT (pv 18) (pa_cons (pv 16) pa_nil)) (fun _ _ => rfl)))))))))))
      (pss_cons (ps_if (pt_cmpR (r := rNeD K) (op_neD hr.units) (pe_callTy (r := rListOfX K) call_list_of (by rfl) B.list (by decide +kernel) (pa_cons (pe_call o_false_heads (hr.mono (by decide)) (by rfl) m_false_heads k_false_heads b_false_heads .nil (passes_call (takes_of (E := E) rfl rfl rfl rfl) (fun _ _ _ _ h => h)) (pa_cons (pv 11) pa_nil)) pa_nil)) (pe_callB (r := RD.rSortedR K) (RD.cr_sortedR rfl (TkO.units70 hr)) (by rfl) B.sorted (by decide +kernel) (pa_cons (pe_callTy (r := RD.rDictR K) (RD.cr_dictR rfl (TkO.units20 hr)) (by rfl) B.dict (by decide +kernel) (pa_cons (pe_lc (own := [("row", 15)]) rfl sc_law.nd (pi_list (pv 17)) (blkOk_by (N := ["script", "signs", "dice", "bells", "heap", "plain", "changes", "k", "text", "place", "one", "method", "rows", "lead", "head", "row", "bell", "due", "other", "start", "again", "little", "large", "bad", "f"]) (by kernel_rfl)) (fun _ _ _ _ _ => (pg_name (i := 15) sc_law.nd rfl (by first | exact Or.inl rfl | exact Or.inr rfl))) (fun _ _ _ _ _ => pts_nil) (fun _ _ _ _ _ => (pe_tup (pa_cons (pv 15) (pa_cons pe_int pa_nil))))) pa_nil)) pa_nil)) (nomark _)) (pss_one (ps_ret pe_bl)) pss_nil)
      (pss_cons (ps_set (i := 19) sc_law.nd rfl (by first | exact Or.inl rfl | exact Or.inr rfl) (pe_ix (r := rIxL K) ix_list (pv 13) (pe_call o__law_roll (hr.mono (by decide)) (by rfl) m__law_roll k__law_roll b__law_roll .nil (passes_call (takes_of (E := E) rfl rfl rfl rfl) (fun _ _ _ _ h => h)) (pa_cons (pv 2) (pa_cons (pe_callB (r := rLenX K) call_len (by rfl) B.len PySem.boot_len (pa_cons (pv 13) pa_nil)) pa_nil))) (fun _ _ => rfl)))
      (pss_cons (ps_for (passes_of rfl) rfl (pi_tup (pe_slice (r := rSlA K) sl_tupA (pe_call o_false_heads (hr.mono (by decide)) (by rfl) m_false_heads k_false_heads b_false_heads .nil (passes_call (takes_of (E := E) rfl rfl rfl rfl) (fun _ _ _ _ h => h)) (pa_cons (pv 11) pa_nil)) po_none (po_some pe_int))) (pg_name (i := 10) sc_law.nd rfl (by first | exact Or.inl rfl | exact Or.inr rfl)) (pss_cons (ps_set (i := 20) sc_law.nd rfl (by first | exact Or.inl rfl | exact Or.inr rfl) (pe_call o__law_lead (hr.mono (by decide)) (by rfl) m__law_lead k__law_lead b__law_lead .nil (passes_call (takes_of (E := E) rfl rfl rfl rfl) (fun _ _ _ _ h => h)) (pa_cons (pv 10) (pa_cons (pv 6) pa_nil))))
      (pss_one (ps_if (pt_cmpR (r := rEqD K) (op_eqD hr.units) (pe_lc (own := [("row", 15)]) rfl sc_law.nd (pi_list (pv 20)) (blkOk_by (N := ["script", "signs", "dice", "bells", "heap", "plain", "changes", "k", "text", "place", "one", "method", "rows", "lead", "head", "row", "bell", "due", "other", "start", "again", "little", "large", "bad", "f"]) (by kernel_rfl)) (fun _ _ _ _ _ => (pg_name (i := 15) sc_law.nd rfl (by first | exact Or.inl rfl | exact Or.inr rfl))) (fun _ _ _ _ _ => (pts_one (show PT _ _ (tTest (tOp (rInD K) _ _)) from pt_cmpR (op_inD (units65 hr)) (pv 15) (pv 13) (by rfl)))) (fun _ _ _ _ _ => pe_int)) (pe_lst pa_nil) (nomark _)) (pss_one (ps_ret pe_bl)) pss_nil))))
      (pss_one (ps_if (pt_cmpR (r := rNeD K) (op_neD hr.units) (pe_callTy (r := rListOfX K) call_list_of (by rfl) B.list (by decide +kernel) (pa_cons (pe_meth (pv 11) cl_Method me_Method_lead o_Method_lead (hr.mono (by decide)) b_Method_lead .nil (passes_call (takes_of (E := E) rfl rfl rfl rfl) (fun _ _ _ _ h => h)) (pa_cons (pv 19) pa_nil)) pa_nil)) (pe_call o__law_lead (hr.mono (by decide)) (by rfl) m__law_lead k__law_lead b__law_lead .nil (passes_call (takes_of (E := E) rfl rfl rfl rfl) (fun _ _ _ _ h => h)) (pa_cons (pv 19) (pa_cons (pv 6) pa_nil))) (nomark _)) (pss_one (ps_ret pe_bl)) pss_nil))))))))))))))))))))
      (pss_cons (ps_asg (pe_tup (pa_cons (pe_make mk_Method o_Method___init__ (hr.mono (by decide)) (by rfl) m_Method b_Method___init__ .nil (passes_call (takes_of (E := E) rfl rfl rfl rfl) (fun _ _ _ _ h => h)) (pa_cons pe_str (pa_cons pe_int (pa_cons pe_str pa_nil)))) (pa_cons (pe_make mk_Method o_Method___init__ (hr.mono (by decide)) (by rfl) m_Method b_Method___init__ .nil (passes_call (takes_of (E := E) rfl rfl rfl rfl) (fun _ _ _ _ h => h)) (pa_cons pe_str (pa_cons pe_int (pa_cons pe_str pa_nil)))) pa_nil))) (pg_tup (by rfl) (pgs_cons (pg_name (i := 21) sc_law.nd rfl (by first | exact Or.inl rfl | exact Or.inr rfl)) (pgs_cons (pg_name (i := 22) sc_law.nd rfl (by first | exact Or.inl rfl | exact Or.inr rfl)) pgs_nil))))
      (pss_cons (ps_set (i := 23) sc_law.nd rfl (by first | exact Or.inl rfl | exact Or.inr rfl) (pe_lst (pa_cons (LmX.pe_lamC TBlaw rfl rfl hmT huT rfl (LamX.lamS_by (by kernel_rfl))) (pa_cons (LmX.pe_lamC TBlaw rfl rfl hmT huT rfl (LamX.lamS_by (by kernel_rfl))) (pa_cons (LmX.pe_lamC TBlaw rfl rfl hmT huT rfl (LamX.lamS_by (by kernel_rfl))) (pa_cons (LmX.pe_lamC TBlaw rfl rfl hmT huT rfl (LamX.lamS_by (by kernel_rfl))) (pa_cons (LmX.pe_lamC TBlaw rfl rfl hmT huT rfl (LamX.lamS_by (by kernel_rfl))) (pa_cons (LmX.pe_lamC TBlaw rfl rfl hmT huT rfl (LamX.lamS_by (by kernel_rfl))) (pa_cons (LmX.pe_lamC TBlaw rfl rfl hmT huT rfl (LamX.lamS_by (by kernel_rfl))) pa_nil)))))))))
      (pss_cons (ps_if (PW.pt (pw_or (pt_cmpR (r := rNeD K) (op_neD hr.units) (CmE.pe_lcJ (own := [("f", 24)]) rfl sc_law.nd (pi_list (pv 23)) (blkOk_by (N := ["script", "signs", "dice", "bells", "heap", "plain", "changes", "k", "text", "place", "one", "method", "rows", "lead", "head", "row", "bell", "due", "other", "start", "again", "little", "large", "bad", "f"]) (by kernel_rfl)) (fun _ _ _ _ _ => (pg_name (i := 24) sc_law.nd rfl (by first | exact Or.inl rfl | exact Or.inr rfl))) (fun pins0 σ0 s0 H0 c0 cl0 fp0 out => (pts_one (pt_cmpR op_ne (LmX.pe_toldJ (KK := K) (k := 8) rfl out F__law_told (fun I t h => h) (by rfl) (hr.mono (by decide)) (pa_cons (pv 24) pa_nil)) pe_str (nomark _)))) (fun _ _ _ _ _ => pe_int)) (pe_lst pa_nil) (nomark _)) (pw_or1 (pt_cmpR (r := rNeD K) (op_neD hr.units) (pe_tup (pa_cons (pe_fld (pv 21) rfl) (pa_cons (pe_fld (pv 21) rfl) pa_nil))) (pe_tup (pa_cons pe_str (pa_cons pe_int pa_nil))) (nomark _))))) (pss_one (ps_ret pe_bl)) pss_nil)
      (pss_one (ps_ret (pe_and (pe_cmpR (r := rEqD K) (op_eqD hr.units) (pe_meth0 (pv 21) cl_Method me_Method_head o_Method_head (hr.mono (by decide)) b_Method_head .nil (passes_call (takes_of (E := E) rfl rfl rfl rfl) (fun _ _ _ _ h => h))) (pe_tup (pa_cons pe_int (pa_cons pe_int (pa_cons pe_int (pa_cons pe_int (pa_cons pe_int (pa_cons pe_int pa_nil))))))) (nomark _)) (pe_and (pe_cmpR op_eq (pe_meth0 (pv 21) cl_Method me_Method_leads o_Method_leads (hr.mono (by decide)) b_Method_leads .nil (passes_call (takes_of (E := E) rfl rfl rfl rfl) (fun _ _ _ _ h => h))) pe_int (nomark _)) (pe_and (pe_meth0 (pv 21) cl_Method me_Method_is_true o_Method_is_true (hr.mono (by decide)) b_Method_is_true .nil (passes_call (takes_of (E := E) rfl rfl rfl rfl) (fun _ _ _ _ h => h))) (pe_and (pe_cmpR op_eq (pe_meth0 (pv 21) cl_Method me_Method_kind o_Method_kind (hr.mono (by decide)) b_Method_kind .nil (passes_call (takes_of (E := E) rfl rfl rfl rfl) (fun _ _ _ _ h => h))) pe_str (nomark _)) (pe_and (pe_cmpR (r := rEqD K) (op_eqD hr.units) (pe_meth0 (pv 21) cl_Method me_Method_hunters o_Method_hunters (hr.mono (by decide)) b_Method_hunters .nil (passes_call (takes_of (E := E) rfl rfl rfl rfl) (fun _ _ _ _ h => h))) (pe_tup (pa_cons pe_int pa_nil)) (nomark _)) (pe_and (pe_meth0 (pv 21) cl_Method me_Method_is_even_sided o_Method_is_even_sided (hr.mono (by decide)) b_Method_is_even_sided .nil (passes_call (takes_of (E := E) rfl rfl rfl rfl) (fun _ _ _ _ h => h))) (pe_one (pe_cmpR op_eq (pe_callB (r := rLenX K) call_len (by rfl) B.len PySem.boot_len (pa_cons (pe_meth0 (pv 21) cl_Method me_Method_course o_Method_course (hr.mono (by decide)) b_Method_course .nil (passes_call (takes_of (E := E) rfl rfl rfl rfl) (fun _ _ _ _ h => h))) pa_nil)) pe_int (nomark _)))))))))))))))), ?_⟩)
  refine keeps h (by decide) ?_
  rintro ds r o hl ⟨ns, rfl, rfl, rfl⟩
  refine sq_set ev_str ?_
  refine st_seq (M := fun g r => g.length = 25) (st_forX (eix_lst (X := fun ds r' => ∃ p s, ds = [.ref p] ∧ r' = [rl p (diceD s)]) (ep_callN (n := 2) (ea_cons (ev_var rfl) (ea_cons ev_int ea_nil)) rfl ⟨ns, rfl, rfl, rfl⟩ (fun _ _ z => z)) ?_) ?_) ?_
  · rintro d r' ⟨r2, ⟨p, s, rfl, rfl⟩, rfl⟩
    exact ⟨_, rfl, p, s, rfl, rfl⟩
  · rintro ds r1 ⟨p, s, rfl, rfl⟩
    refine ⟨fun i g r => g.length = 25 ∧ (i = 0 → g = [some (.lsq (ns.map D.int)), some (.str SIGNS)] ++ List.replicate 23 none ∧ r = [rl p (diceD s)]), ⟨rfl, fun _ => ⟨rfl, rfl⟩⟩, ?_, fun g r h => h.1⟩
    rintro i d g r hd ⟨_, hI⟩
    have hi : i = 0 := by
      have := (List.getElem?_eq_some_iff.mp hd).1
      simp at this
      exact this
    subst hi
    simp at hd
    subst hd
    obtain ⟨rfl, rfl⟩ := hI rfl
    refine ⟨_, _, eg_name, ?_⟩
    -- the rolls
    have roll : ∀ {E1 : XK} (g : G) (m : Int) (te : TE) (s : S3) (r1 r2 : Rs), g[2]? = some (some (.ref p)) → 1 ≤ m → m ≤ 1000 → Ev T K te g (r1 ++ rl p (diceD s) :: r2) (.int m) (r1 ++ rl p (diceD s) :: r2) → Ev T K (tCall (spR T K 2 R_roll) [] E1 (tCons (tVar 2) (tCons te tNil))) g (r1 ++ rl p (diceD s) :: r2) (.int (rollV s m)) (r1 ++ rl p (diceD (rollD s m)) :: r2) := fun {E1} g m te s r1 r2 hg h1 h2 hte => by
      have q := ev_call1 (E := E1) (T := T) (K := K) (n := 2) (R := R_roll) (a := rl p (diceD s)) (b := rl p (diceD (rollD s m))) r1.length (ea_cons (ev_var hg) (ea_cons hte ea_nil)) (by simp) rfl ⟨p, s, m, h1, h2, rfl, rfl, rfl⟩
      have e : (r1 ++ rl p (diceD s) :: r2).set r1.length (rl p (diceD (rollD s m))) = r1 ++ rl p (diceD (rollD s m)) :: r2 := by
        rw [List.set_append_right _ _ (Nat.le_refl _)]
        simp
      rw [e] at q
      exact q
    have hb := rollV_lt (s := s) (m := 5) (by omega)
    refine sq_set (ev_op ev_int (roll _ 5 _ s [] [] rfl (by omega) (by omega) ev_int) od_I0i) ?_
    obtain ⟨n, hn⟩ : ∃ n : Nat, 3 + rollV s 5 = (n : Int) := ⟨(3 + rollV s 5).toNat, by omega⟩
    rw [hn]
    have n3 : 3 ≤ n := by omega
    have n7 : n ≤ 7 := by omega
    generalize rollD s 5 = s1
    clear hb hn
    obtain ⟨hp60, hpne, hpok⟩ := heap_fine n n3 (by omega)
    have hplen := List.length_pos_iff.mpr hpne
    have rgE : ∀ (g : G) (r : Rs), g[3]? = some (some (.int (n : Nat))) → Ev T K (tTupRg (tRg2 (tC (.int 1)) (tOp (rI0 fun i j => .int (i + j)) (tVar 3) (tC (.int 1))))) g r (rowD (rng n)) r := fun g r h => by
      have : Ev T K (tTupRg (tRg2 (tC (.int 1)) (tOp (rI0 fun i j => .int (i + j)) (tVar 3) (tC (.int 1))))) g r (.tup (rgD 1 (((n : Int) + 1) - 1).toNat)) r := ev_tupRg (er_2 ev_int (ev_op (ev_var h) ev_int od_I0i)) (by omega) (by omega)
      rw [rg_rng] at this
      exact this
    -- heap, plain
    refine sq_asg (ev_tup (ds := [.lst ((lawV n).map rowD), rowD (rng n)]) (r' := [rl p (diceD s1)]) (ea_cons (r1 := [rl p (diceD s1)]) (ev_callC (n := 1) (R := R_lchanges) ⟨n, ⟨n3, by omega⟩, rfl, rfl, rfl⟩ (ea_cons (ev_var rfl) ea_nil) rfl) (ea_cons (r1 := [rl p (diceD s1)]) (rgE _ _ rfl) ea_nil)) (by simp)) (eg_tup (egs_cons eg_name (egs_cons eg_name egs_nil)) rfl) ?_
    -- rows
    have hb := rollV_lt (s := s1) (m := 8) (by omega)
    obtain ⟨k0, hk0⟩ : ∃ k : Nat, 1 + rollV s1 8 = (k : Int) := ⟨(1 + rollV s1 8).toNat, by omega⟩
    have k1 : 1 ≤ k0 := by omega
    have k8 : k0 ≤ 8 := by omega
    have erows : ∀ (g : G), g[2]? = some (some (.ref p)) → g[4]? = some (some (.lst ((lawV n).map rowD))) → 7 < g.length → ∀ (te : TI), EvI T K te g [rl p (diceD s1)] (rgD 0 k0) [rl p (diceD (rollD s1 8))] → ∀ E1 : XK, EvN T K (tLc te (gName 7) tYes (tOp (rIxL K) (tVar 4) (tCall (spR T K 2 R_roll) [] E1 (tCons (tVar 2) (tCons (tCB (rLenX K) (tCons (tVar 4) tNil)) tNil)))) [7]) g [rl p (diceD s1)] ((drawS (lawV n) k0 (rollD s1 8)).1.map rowD) [rl p (diceD (drawS (lawV n) k0 (rollD s1 8)).2)] := fun g g2 g4 g7 te hte E1 => by
      refine en_lc hte (fun i acc r' => acc = (drawS (lawV n) i (rollD s1 8)).1.map rowD ∧ r' = [rl p (diceD (drawS (lawV n) i (rollD s1 8)).2)]) ⟨rfl, rfl⟩ (by simp [rgD]; omega) ?_ ?_
      · rintro i d acc r' hd ⟨rfl, rfl⟩
        have w2 : ∀ x, ((wipeG g [7]).set 7 x)[2]? = some (some (.ref p)) := fun x => by simp [wipeG, g2]
        have w4 : ∀ x, ((wipeG g [7]).set 7 x)[4]? = some (some (.lst ((lawV n).map rowD))) := fun x => by simp [wipeG, g4]
        generalize hs : (drawS (lawV n) i (rollD s1 8)).2 = s2
        have hv := rollV_lt (s := s2) (m := (lawV n).length) (by omega)
        refine ⟨_, _, eg_name, by simp, true, _, et_yes, fun _ => ⟨rowD ((lawV n).getD (rollV s2 (lawV n).length).toNat []), _, ev_op (ev_var (w4 _)) (roll _ ((lawV n).length : Int) _ s2 [] [] (w2 _) (by omega) (by omega) (Ev.of_eq (ev_cb (ea_cons (ev_var (w4 _)) ea_nil) (ca_len vs_f)) (by rw [List.length_map]))) (od_ixLE vl_f hv.1 ?_), ?_, ?_⟩, fun z => by cases z⟩
        · rw [List.getD_eq_getElem?_getD, List.getElem?_eq_getElem (by omega)]
          rfl
        · show _ = ((drawS (lawV n) i (rollD s1 8)).1 ++ [(lawV n).getD (rollV (drawS (lawV n) i (rollD s1 8)).2 (lawV n).length).toNat []]).map rowD
          rw [hs, List.map_append]
          rfl
        · show _ = [rl p (diceD (rollD (drawS (lawV n) i (rollD s1 8)).2 (lawV n).length))]
          rw [hs]
          rfl
      · rintro acc r' ⟨rfl, rfl⟩
        have : (rgD 0 k0).length = k0 := by simp [rgD]
        rw [this]
        exact ⟨rfl, rfl⟩
    have erg : EvI T K (iRng1 (tCons (tOp (rI0 fun i j => .int (i + j)) (tC (.int 1)) (tCall (spR T K 2 R_roll) [] E (tCons (tVar 2) (tCons (tC (.int 8)) tNil)))) tNil)) ([some (.lsq (ns.map D.int)), some (.str SIGNS), some (.ref p), some (.int (n : Nat)), some (.lst ((lawV n).map rowD)), some (rowD (rng n))] ++ List.replicate 19 none) [rl p (diceD s1)] (rgD 0 k0) [rl p (diceD (rollD s1 8))] := by
      have q := ei_rg1 (T := T) (K := K) (n := 1 + rollV s1 8) (ea_cons (ev_op ev_int (roll (E1 := E) ([some (.lsq (ns.map D.int)), some (.str SIGNS), some (.ref p), some (.int (n : Nat)), some (.lst ((lawV n).map rowD)), some (rowD (rng n))] ++ List.replicate 19 none) 8 _ s1 [] [] rfl (by omega) (by omega) ev_int) od_I0i) ea_nil) (by omega)
      rw [hk0] at q
      exact q
    refine sq_set (EvN.ev (erows _ rfl rfl (by simp) _ erg _)) ?_
    obtain ⟨hrl, hrm⟩ := drawS_mem hpne k0 (rollD s1 8)
    generalize (drawS (lawV n) k0 (rollD s1 8)).1 = rows at hrl hrm ⊢
    generalize (drawS (lawV n) k0 (rollD s1 8)).2 = s2
    clear erows erg hb hk0 s1
    have hrows : ∀ q ∈ rows, q ∈ lawV n := hrm
    have rl8 : rows.length ≤ 8 := by omega
    have hmap : ∀ a b : List (List Int), a.map rowD ++ b.map rowD = (a ++ b).map rowD := fun a b => (List.map_append).symm
    -- some read back alike
    refine st_seq (M := fun g r => ∃ (chs : List (List Int)) (s3 : S3), 1 ≤ chs.length ∧ chs.length ≤ 8 ∧ (∀ q ∈ chs, q ∈ lawV n) ∧ g = [some (.lsq (ns.map D.int)), some (.str SIGNS), some (.ref p), some (.int (n : Nat)), some (.lst ((lawV n).map rowD)), some (rowD (rng n)), some (.lst (chs.map rowD))] ++ List.replicate 18 none ∧ r = [rl p (diceD s3)])
      (st_if (et_test (ev_op (roll _ 2 _ s2 [] [] rfl (by omega) (by omega) ev_int) ev_int od_eqI)) (fun _ => ?_) (fun _ => ?_)) ?_
    · generalize rollD s2 2 = s3
      have hv := rollV_lt (s := s3) (m := (lawV n).length) (by omega)
      have e1 : ∀ (g : G) (r : Rs), g[6]? = some (some (.lst (rows.map rowD))) → EvN T K (tSl (rSlL K) (tVar 6) tNoPart (tPart (tC (V.int 4)))) g r ((rows.take 4).map rowD) r := fun g r h => by
        have q := en_slL (T := T) (K := K) (r := r) (ev_var h) eo_none (eo_some (ev_int : Ev T K (tC (.int 4)) g r (.int 4) r)) vl_f
        rw [cut_upto (by decide), ← List.map_take] at q
        exact q
      have e2 : ∀ (g : G) (r : Rs), g[6]? = some (some (.lst (rows.map rowD))) → EvN T K (tRevL K (tSl (rSlL K) (tSl (rSlL K) (tVar 6) tNoPart (tPart (tC (V.int 4)))) tNoPart (tPart (tUn (rU fun i => V.int (-i)) (tC (V.int 1)))))) g r (((rows.take 4).dropLast.reverse).map rowD) r := fun g r h => by
        have q := en_rev (EvN.ev (en_slL (e1 g r h).ev eo_none (eo_some (ev_neg (ev_int : Ev T K (tC (.int 1)) g r (.int 1) r))) vl_f)) vl_f
        rw [show (-1 : Int) = -1 from rfl, cut_m1, ← List.map_dropLast, ← List.map_reverse] at q
        exact q
      have e3 := en_cat (T := T) (K := K) (e1 ([some (.lsq (ns.map D.int)), some (.str SIGNS), some (.ref p), some (.int (n : Nat)), some (.lst ((lawV n).map rowD)), some (rowD (rng n)), some (.lst (rows.map rowD))] ++ List.replicate 18 none) [rl p (diceD s3)] rfl).ev (e2 _ _ rfl).ev vl_f vl_f (by simp; omega)
      rw [hmap] at e3
      have hA : (rows.take 4 ++ (rows.take 4).dropLast.reverse).length ≤ 7 := by
        have : (rows.take 4).length ≤ 4 := List.length_take_le 4 rows
        rw [List.length_append, List.length_reverse, List.length_dropLast]
        omega
      have hA2 : ∀ q ∈ rows.take 4 ++ (rows.take 4).dropLast.reverse, q ∈ lawV n := fun q z => by
        rcases List.mem_append.mp z with z | z
        · exact hrows q (List.mem_of_mem_take z)
        · exact hrows q (List.mem_of_mem_take ((List.dropLast_sublist _).subset (List.mem_reverse.mp z)))
      generalize rows.take 4 ++ (rows.take 4).dropLast.reverse = A at hA hA2 e3
      have hxm : (lawV n)[(rollV s3 (lawV n).length).toNat]? = some ((lawV n).getD (rollV s3 (lawV n).length).toNat []) := by
        rw [List.getD_eq_getElem?_getD, List.getElem?_eq_getElem (by omega)]
        rfl
      have hxo : (lawV n).getD (rollV s3 (lawV n).length).toNat [] ∈ lawV n := List.mem_of_getElem? hxm
      generalize (lawV n).getD (rollV s3 (lawV n).length).toNat [] = x at hxm hxo
      refine st_set (EvN.ev (en_cat e3.ev (EvN.ev (en_lst (ds := [rowD x]) (ea_cons (ev_op (ev_var rfl) (roll _ ((lawV n).length : Int) _ s3 [] [] rfl (by omega) (by omega) (Ev.of_eq (ev_cb (ea_cons (ev_var rfl) ea_nil) (ca_len vs_f)) (by rw [List.length_map]))) (od_ixLE vl_f hv.1 hxm)) ea_nil) (by simp))) vl_f vl_f (by rw [List.length_map]; show _ + 1 ≤ _; omega))) ?_
      refine ⟨A ++ [x], _, by simp, by rw [List.length_append]; show _ + 1 ≤ _; omega, fun q hq => ?_, by rw [List.map_append]; rfl, rfl⟩
      rcases List.mem_append.mp hq with z | z
      · exact hA2 q z
      · rw [List.mem_singleton.mp z]
        exact hxo
    · exact st_next ⟨rows, _, by omega, rl8, hrows, rfl, rfl⟩
    rintro g r ⟨chs, s3, h1, h8, hmem, rfl, rfl⟩
    clear hrows rl8 hrl hrm s2 rows
    have hmt : metOk n chs := ⟨by omega, by omega, fun q hq => (hpok q (hmem q hq)).1⟩
    have pieceE : ∀ (g : G) (r : Rs) (q : List Int), g[10]? = some (some (rowD q)) → g[1]? = some (some (.str SIGNS)) → 9 < g.length → q.length ≤ 100 → (∀ b ∈ q, 1 ≤ b ∧ b ≤ 12) → Ev T K (tIf (tTest (tOp (rEqD K) (tVar 10) (tTup tNil))) (tC (.str (Str.ofString "x"))) (tM1 (fun x xs H Q => ∃ a p, ∃ ys : List Str, x = .str a ∧ xs = [.ref p] ∧ (SqL K H p (ys.map V.str) ∨ SqT K H p (ys.map V.str)) ∧ (ys.map (·.length)).sum + ys.length * a.length ≤ 16777216 ∧ Q (.str (Txt.join a ys)) H) (tC (.str (Str.ofString ""))) (tLc (iTup K (tVar 10)) (gName 9) tYes (tOp rIxS (tVar 1) (tOp (rI0 fun i j => .int (i - j)) (tVar 9) (tC (.int 1)))) [9]))) g r (strD (pcs q q)) r := fun g r q hc h1 h9 hm hb => by
      have ej : Ev T K (tM1 (fun x xs H Q => ∃ a p, ∃ ys : List Str, x = .str a ∧ xs = [.ref p] ∧ (SqL K H p (ys.map V.str) ∨ SqT K H p (ys.map V.str)) ∧ (ys.map (·.length)).sum + ys.length * a.length ≤ 16777216 ∧ Q (.str (Txt.join a ys)) H) (tC (.str (Str.ofString ""))) (tLc (iTup K (tVar 10)) (gName 9) tYes (tOp rIxS (tVar 1) (tOp (rI0 fun i j => .int (i - j)) (tVar 9) (tC (.int 1)))) [9])) g r (strD (q.map bellC)) r := by
        refine ev_joinS (cs := q.map bellC) (EvN.ev (en_lcMT (enc2 := fun c => sgn c) (fe := bellC) (ei_T (ev_var hc)) (by omega) fun b hb2 => ⟨_, _, eg_name, by simp, ?_⟩)) vs_f (by rw [List.length_map]; omega)
        have hb3 := hb b hb2
        have w1 : ((wipeG g [9]).set 9 (some (.int b)))[1]? = some (some (.str SIGNS)) := by simp [wipeG, h1]
        exact ev_op (ev_var w1) (ev_op (ev_var (List.getElem?_set_self (by simpa [wipeG] using h9))) ev_int od_I0i) (od_ixStr signs_sz (by omega) (by rw [signs_len]; omega))
      refine Ev.of_eq (ev_ifD (et_test (ev_op (ev_var hc) (ev_tup ea_nil (by simp)) (od_eqD vd_f (vd_f (d := .tup [])) (sh_row q) (sh_row [])))) (fun _ => ev_str) (fun _ => ej)) ?_
      rw [eq_nilT]
      unfold pcs
      by_cases hq : q = []
      · subst hq
        show D.str (Str.ofString "x") = _
        rw [if_pos rfl, show (Str.ofString "x") = ⟨([120] : List Nat).toArray⟩ by decide +kernel]
      · rw [if_neg hq, if_neg (by simpa using hq)]
    have hq12 : ∀ q ∈ chs, q.length ≤ n ∧ ∀ b ∈ q, 1 ≤ b ∧ b ≤ 12 := fun q hq => by
      have h2 := okP_len (hpok q (hmem q hq)).1
      exact ⟨h2.1, fun b hb => by have := h2.2 b hb; omega⟩
    refine sq_set (d := .str (textV chs)) (ev_joinDot (chs := chs) (EvN.ev (en_lcMT (as := chs) (enc := rowD) (fe := fun q => q) (enc2 := fun q => D.str (pieceS q)) (ei_lst (ev_var rfl)) (by omega) fun q hq => ⟨_, _, eg_name, by decide, pieceE _ _ q rfl rfl (by simp [wipeG]) (by have := (hq12 q hq).1; omega) (hq12 q hq).2⟩)) (by rw [List.map_id']; exact vs_f) (by omega) (fun q hq => by have := (hq12 q hq).1; omega)) ?_
    have hback := text_back n3 (by omega) (fun z => by rw [z] at h1; simp at h1) hmem
    have hpos : 0 < chs.length := by omega
    have hcl := course_len (n := n) (chs := chs) (cB_9 (by omega))
    refine sq_asg (ev_tup (ds := [metD cM "m" n chs, .lst ((courseV chs n).map rowD)]) (r' := [rl p (diceD s3)]) (ea_cons (r1 := [rl p (diceD s3)]) (ev_make (n := 4) (ns := mN) (es := [.str "m", .int n, .tup (chs.map rowD)]) (fun q => init_text (cRow := cRow) (cPl := cPl) n3 n7 h1 h8 hmem) (ea_cons ev_str (ea_cons (ev_var rfl) (ea_cons (ev_var rfl) ea_nil)))) (ea_cons (r1 := [rl p (diceD s3)]) (ev_callC (n := 2) (R := R_lcourse) ⟨n, chs, hmt, n7, cB_9 (by omega), rfl, rfl, rfl⟩ (ea_cons (ev_var rfl) (ea_cons (ev_var rfl) ea_nil)) rfl) ea_nil)) (by simp)) (eg_tup (egs_cons eg_name (egs_cons eg_name egs_nil)) rfl) ?_
    refine sq_set (ev_callC (n := 2) (R := R_llead) (llead_ok hmt (.refl _)) (ea_cons (ev_var rfl) (ea_cons (ev_var rfl) ea_nil)) rfl) ?_
    have hne : chs ≠ [] := fun z => by rw [z] at h1; simp at h1
    have hlst : (leadV chs (rng n)).getLast? = some (headV chs (rng n)) := lead_last hne
    refine sq_set (d := rowD (headV chs (rng n))) (ev_op (ev_wL (ev_var rfl)) (ev_op (ev_cb (ea_cons (ev_wL (ev_var rfl)) ea_nil) (ca_len vs_f)) ev_int od_I0i) (od_ixL vl_f (last_at hlst))) ?_
    have hneR : ∀ a : List (List Int), (!eqD (.lst (a.map rowD)) (.lst (a.map rowD))) = false := fun a => by rw [eq_rows]; simp
    have hneQ : ∀ a : List Int, (!eqD (rowD a) (rowD a)) = false := fun a => by rw [eq_row]; simp
    refine sq_no (et_or2 (et_eq (et_test (ev_op (en_listOf (ea_cons (ev_fld (ev_var rfl) in_f CM.c CM.n3 rfl) ea_nil) vs_t).ev (ev_var rfl) (od_neD vd_f vd_f (sh_rows _) (sh_rows _)))) (hneR _))
      (et_or2 (et_eq (et_test (ev_op (en_listOf (ea_cons (ev_wT (ev_meth (n := 2) (lead_ok hmt (.refl _)) (ev_var rfl) in_f (ea_cons (ev_var rfl) ea_nil))) ea_nil) vs_t).ev (ev_wL (ev_var rfl)) (od_neD vd_f vd_f (sh_rows _) (sh_rows _)))) (hneR _))
      (et_or2 (et_eq (et_test (ev_op (ev_tux (ev_meth (n := 1) (R := R_head cM) ⟨"m", n, chs, hmt, rfl, rfl, rfl⟩ (ev_var rfl) in_f ea_nil)) (ev_var rfl) (od_neD vd_f vd_f (sh_row _) (sh_row _)))) (hneQ _))
      (et_or2 (et_eq (et_test (ev_op (en_listOf (ea_cons (ev_meth (n := 1) (R := R_course cM) ⟨"m", n, chs, hmt, n7, cB_9 (by omega), rfl, rfl, rfl⟩ (ev_var rfl) in_f ea_nil) ea_nil) vs_t).ev (ev_var rfl) (od_neD vd_f vd_f (sh_rows _) (sh_rows _)))) (hneR _))
      (et_eq (et_test (ev_op (ev_op (ev_meth (n := 1) (R := R_leads cM) ⟨"m", n, chs, hmt, n7, cB_9 (by omega), rfl, rfl, rfl⟩ (ev_var rfl) in_f ea_nil) (ev_cb (ea_cons (ev_var rfl) ea_nil) (ca_len vs_f)) (od_I ?_)) (ev_cb (ea_cons (ev_var rfl) ea_nil) (ca_len vs_f)) od_neI)) ?_))))) ?_
    · refine Or.inr ⟨?_, ?_⟩ <;> (rw [List.length_map]; omega)
    · rw [List.length_map, List.length_map]
      simp [leads_mul n h1]
    have hhl : (headV chs (rng n)).length = n := by rw [(head_perm chs (rng n)).length_eq, rng_len]
    have hll : (leadV chs (rng n)).length = chs.length := lead_len _ _
    have hlp : ∀ q ∈ leadV chs (rng n), q.Perm (rng n) := fun q hq => lead_perm _ _ q hq
    have ix : ∀ (l : List Int) (i : Int), l.length = n → 0 ≤ i → i < n → atI (l.map D.int) i = some (.int (l.getD i.toNat 0)) := fun l i h h1 h2 => atI_of (by omega) (by
      rw [List.getElem?_map, List.getD_eq_getElem?_getD, List.getElem?_eq_getElem (by omega)]
      rfl)
    -- is_true, hunters
    refine sq_no (et_or2 (et_eq (et_test (ev_op (ev_meth (n := 1) (R := R_is_true cM) ⟨"m", n, chs, hmt, n7, cB_9 (by omega), rfl, rfl, rfl⟩ (ev_var rfl) in_f ea_nil) (ev_op (ev_lenR (ea_cons (er_dict (es := (courseV chs n).map fun q => (q, D.int 1)) (ea_cons (en_lcMT (as := courseV chs n) (enc := rowD) (fe := fun q => (q, D.int 1)) (enc2 := fun e : List Int × D => D.tup [rowD e.1, e.2]) (ei_lst (ev_var rfl)) (by omega) fun q hq => ⟨_, _, eg_name, by decide, ev_tup (ea_cons (ev_var rfl) (ea_cons ev_int ea_nil)) (by simp)⟩).ev ea_nil) vl_f).ev ea_nil) vr_f) (ev_cb (ea_cons (ev_var rfl) ea_nil) (ca_len vs_f)) od_eqI) od_neB)) ?_)
      (et_eq (et_test (ev_op (en_listOf (ea_cons (ev_meth (n := 1) (R := R_hunters cM) ⟨"m", n, chs, hmt, rfl, rfl, rfl⟩ (ev_var rfl) in_f ea_nil) ea_nil) vs_t).ev (en_lcT (as := rng n) (enc := D.int) (b := fun b => decide ((headV chs (rng n)).getD (b - 1).toNat 0 = b)) (fe := fun v => v) D.int (ei_tup (ev_var rfl)) (by rw [rng_len]; omega) fun v hv => ⟨_, _, eg_name, by decide, et_test (ev_op (ev_op (ev_var rfl) (ev_op (ev_var rfl) ev_int od_I0i) (od_ixT (ix _ (v - 1) hhl (by have := rng_mem.mp hv; omega) (by have := rng_mem.mp hv; omega)))) (ev_var rfl) od_eqI), fun _ => ev_var rfl⟩).ev (od_neD (a := .lst ((huntV n (headV chs (rng n))).map D.int)) (b := .lst ((huntV n (headV chs (rng n))).map D.int)) vd_f ?_ (sh_il _) (sh_il _)))) ?_)) ?_
    · have e : ((courseV chs n).map fun q => (q, D.int 1)).map (fun e => e.1) = courseV chs n := by rw [List.map_map]; exact List.map_id' _
      rw [e, List.length_map]
      show ((decide ((nubR (courseV chs n)).length = (courseV chs n).length)) != decide (((nubR (courseV chs n)).length : Int) = ((courseV chs n).length : Int))) = false
      have e2 : decide (((nubR (courseV chs n)).length : Int) = ((courseV chs n).length : Int)) = decide ((nubR (courseV chs n)).length = (courseV chs n).length) := decide_eq_decide.mpr ⟨fun z => by omega, fun z => by omega⟩
      rw [e2, bne_self_eq_false]
    · rw [List.map_id']
      exact vd_f
    · rw [eq_il]; simp
    -- paths
    refine sq_no (et_eq (et_test (ev_op (en_lcMT (as := rng n) (enc := D.int) (fe := fun b => pathV chs n b) (enc2 := ilD) (ei_tup (ev_var rfl)) (by rw [rng_len]; omega) fun b hb => ⟨_, _, eg_name, by decide, (en_listOf (ea_cons (ev_meth (n := 2) (R := R_path cE cM) ⟨"m", n, chs, b, hmt, rfl, rfl, (oc_y (rng_mem.mp hb)).symm⟩ (ev_var rfl) in_f (ea_cons (ev_var rfl) ea_nil)) ea_nil) vs_t).ev⟩).ev
      (en_lcMT (as := rng n) (enc := D.int) (fe := fun b => pathV chs n b) (enc2 := ilD) (ei_tup (ev_var rfl)) (by rw [rng_len]; omega) fun b hb => ⟨_, _, eg_name, by decide, (en_lcMT (as := leadV chs (rng n)) (enc := rowX) (fe := fun row => ((row.idxOf b : Nat) : Int) + 1) D.int (ei_lst (ev_var rfl)) (by omega) fun row hr => ⟨_, _, eg_name, by decide, ev_op (ev_idxT (ev_var rfl) (ea_cons (ev_var rfl) ea_nil) ((hlp row hr).mem_iff.mpr hb)) ev_int od_I0i⟩).ev⟩).ev
      (od_neD vd_f vd_f (sh_ils _) (sh_ils _)))) (by rw [eq_ils]; rfl)) ?_
    -- even-sided, blows, kind
    have hperC : ∀ q ∈ courseV chs n, q.length = n := fun q hq => by
      have := (crs_perm chs n 5040 (rng n) (.refl _) q hq).length_eq
      rw [rng_len] at this
      exact this
    have hbound : (courseV chs n).length ≤ 45369 := by
      have h1 := crs_len chs n 5040 (rng n)
      have h3 : (courseV chs n).length ≤ 5041 * chs.length := h1
      have h4 : 5041 * chs.length ≤ 5041 * 9 := Nat.mul_le_mul_left _ (by omega)
      omega
    have hcne : courseV chs n ≠ [] := fun z => by
      have e := leads_mul n h1
      have h0 : 0 < (courseV chs n).length := by
        show 0 < (crsF chs n 5040 (rng n)).length
        rw [show (5040 : Nat) = 5039 + 1 from rfl, crsF, List.length_append, lead_len]
        omega
      rw [z] at h0
      simp at h0
    refine sq_no (et_or2 (et_eq (et_test (ev_op (ev_meth (n := 1) (R := R_even cM) ⟨"m", n, chs, hmt, rfl, rfl, rfl⟩ (ev_var rfl) in_f ea_nil) (ev_op (en_slL (ev_var rfl) eo_none (eo_some (ev_neg ev_int)) vl_f).ev (en_rev (en_slL (ev_var rfl) eo_none (eo_some (ev_neg ev_int)) vl_f).ev vl_f).ev (od_eqD (a := .lst (chs.dropLast.map rowD)) (b := .lst (chs.dropLast.reverse.map rowD)) ?_ ?_ (sh_rows _) (sh_rows _))) od_neB)) ?_)
      (et_or2 (et_eq (et_test (ev_op (ev_meth (n := 1) (R := R_blows cM) ⟨"m", n, chs, hmt, n7, cB_9 (by omega), rfl, rfl, rfl⟩ (ev_var rfl) in_f ea_nil) (ev_callC (n := 2) (R := R_lblows) ⟨n, courseV chs n, n7, hcne, hperC, hbound, rfl, rfl, rfl⟩ (ea_cons (ev_var rfl) (ea_cons (ev_var rfl) ea_nil)) rfl) od_neI)) ?_)
      (et_eq (et_test (ev_op (ev_meth (n := 1) (R := R_kind cM) ⟨"m", n, chs, hmt, n7, cB_9 (by omega), rfl, rfl, rfl⟩ (ev_var rfl) in_f ea_nil) (ev_callC (n := 2) (R := R_lkind) ⟨n, chs, hmt, n7, cB_9 (by omega), rfl, rfl, rfl⟩ (ea_cons (ev_var rfl) (ea_cons (ev_var rfl) ea_nil)) rfl) od_neS)) ?_))) ?_
    · rw [cut_m1, ← List.map_dropLast]; exact vd_f
    · rw [cut_m1, ← List.map_dropLast, ← List.map_reverse]; exact vd_f
    · rw [eq_rows, bne_self_eq_false]
    · rw [(blows_eq (courseV chs n) hcne n).1]; simp
    · rw [kind_eq hmt]; simp
    -- what is due
    generalize hL : leadV chs (rng n) = L at hll hlp
    have hLl : ∀ q ∈ L, q.length = n := fun q hq => by rw [(hlp q hq).length_eq, rng_len]
    have hLn : L ≠ [] := fun z => by rw [z] at hll; simp at hll; omega
    have hL8 : L.length ≤ 8 := by omega
    have hfl : ∀ l : List (List Int), (l.flatMap fun one => L.map fun other => perm one (und other)).length = l.length * L.length := by
      intro l
      induction l with
      | nil => simp
      | cons a l ih => rw [List.flatMap_cons, List.length_append, ih, List.length_map, List.length_cons, Nat.add_mul]; omega
    have hf8 : ∀ l : List (List Int), l.length ≤ 8 → (l.flatMap fun one => L.map fun other => perm one (und other)).length ≤ 64 := fun l hl => by
      rw [hfl]
      exact Nat.mul_le_mul hl hL8
    refine sq_set (en_lst ea_nil (by simp)).ev ?_
    refine st_seq (M := fun g r => ∃ x10, g = [some (.lsq (ns.map D.int)), some (.str SIGNS), some (.ref p), some (.int (n : Nat)), some (.lst ((lawV n).map rowD)), some (rowD (rng n)), some (.lst (chs.map rowD)), none, some (.str (textV chs)), none, x10, some (metD cM "m" n chs), some (.lst ((courseV chs n).map rowD)), some (.lst (L.map rowX)), some (rowD (headV chs (rng n))), none, none, some (.lst ((fhK L).map rowD)), none, none, none, none, none, none, none] ∧ r = [rl p (diceD s3)])
      (st_forT (ei_L (ev_var rfl)) (fun i g r => ∃ x10, g = [some (.lsq (ns.map D.int)), some (.str SIGNS), some (.ref p), some (.int (n : Nat)), some (.lst ((lawV n).map rowD)), some (rowD (rng n)), some (.lst (chs.map rowD)), none, some (.str (textV chs)), none, x10, some (metD cM "m" n chs), some (.lst ((courseV chs n).map rowD)), some (.lst (L.map rowX)), some (rowD (headV chs (rng n))), none, none, some (.lst (((L.take i).flatMap fun one => L.map fun other => perm one (und other)).map rowD)), none, none, none, none, none, none, none] ∧ r = [rl p (diceD s3)]) ⟨_, rfl, rfl⟩ ?_ ?_) ?_
    · rintro i one g r hi hmo ⟨x10, rfl, rfl⟩
      refine ⟨_, _, eg_name, ?_⟩
      have et : L.take (i + 1) = L.take i ++ [one] := by rw [List.take_succ, hi]; rfl
      have h64 := hf8 (L.take i) (by rw [List.length_take]; omega)
      refine st_set (en_cat (ev_var rfl) (en_lcMT (as := L) (enc := rowX) (fe := fun other => perm one (und other)) (enc2 := rowD) (ei_lst (ev_var rfl)) (by omega) fun other ho => ⟨_, _, eg_name, by decide, Ev.of_eq (ev_tux (ev_tupX (en_lcMT (as := rng n) (enc := D.int) (fe := fun b => one.getD (other.idxOf b) 0) D.int (ei_tup (ev_var rfl)) (by rw [rng_len]; omega) fun b hb => ⟨_, _, eg_name, by decide, ev_op (ev_varW rfl) (ev_idxT (ev_var rfl) (ea_cons (ev_var rfl) ea_nil) ((hlp other ho).mem_iff.mpr hb)) (od_ixT (Eq.trans (ix one _ (hLl one hmo) ?_ ?_) ?_))⟩).ev vl_f)) (congrArg rowD (due_row (hLl other ho)))⟩).ev vl_f vl_f ?_).ev ?_
      · omega
      · have h1 := (List.idxOf_lt_length_iff (a := b) (l := other)).mpr ((hlp other ho).mem_iff.mpr hb)
        have h2 := hLl other ho
        omega
      · rw [Int.toNat_natCast]
      · rw [List.length_map, List.length_map, List.length_map]
        omega
      · refine ⟨some (rowX one), ?_, rfl⟩
        rw [et, List.flatMap_append, List.map_append]
        simp [List.flatMap_cons]
    · rintro g r ⟨x10, rfl, rfl⟩
      rw [List.take_length]
      exact ⟨_, rfl, rfl⟩
    rintro g r ⟨x10, rfl, rfl⟩
    have hD64 : (fhK L).length ≤ 64 := hf8 L hL8
    have hfalse : R_false cE cM [metD cM "m" n chs] [] (.one (.tup ((srtR (nubR (fhK L))).map rowD)) []) := ⟨"m", n, chs, hmt, by omega, rfl, rfl, by rw [if_pos (by omega), hL]⟩
    refine sq_no (et_eq (et_test (ev_op (en_listOf (ea_cons (ev_callC (n := 1) (R := R_false cE cM) hfalse (ea_cons (ev_var rfl) ea_nil) rfl) ea_nil) vs_t).ev
      (en_sortedR (ea_cons (er_dict (es := (fhK L).map fun q => (q, D.int 1)) (ea_cons (en_lcMT (as := fhK L) (enc := rowD) (fe := fun q => (q, D.int 1)) (enc2 := fun e : List Int × D => D.tup [rowD e.1, e.2]) (ei_lst (ev_var rfl)) (by omega) fun q hq => ⟨_, _, eg_name, by decide, ev_tup (ea_cons (ev_var rfl) (ea_cons ev_int ea_nil)) (by simp)⟩).ev ea_nil) vl_f).ev ea_nil) vr_f).ev (od_neD vd_f vd_f (sh_rows _) (sh_rows _)))) ?_) ?_
    · have e : ((fhK L).map fun q => (q, D.int 1)).map (fun e => e.1) = fhK L := by rw [List.map_map]; exact List.map_id' _
      rw [e]
      exact hneR _
    -- a row to start from
    have hv := rollV_lt (s := s3) (m := L.length) (by have := List.length_pos_iff.mpr hLn; omega)
    have hxm : L[(rollV s3 L.length).toNat]? = some (L.getD (rollV s3 L.length).toNat []) := by
      rw [List.getD_eq_getElem?_getD, List.getElem?_eq_getElem (by omega)]
      rfl
    have hxo : L.getD (rollV s3 L.length).toNat [] ∈ L := List.mem_of_getElem? hxm
    generalize L.getD (rollV s3 L.length).toNat [] = x at hxm hxo
    refine sq_set (d := rowX x) (ev_op (ev_var rfl) (roll _ (L.length : Int) _ s3 [] [] rfl (by omega) (by omega) (Ev.of_eq (ev_cb (ea_cons (ev_var rfl) ea_nil) (ca_len vs_f)) (by rw [List.length_map]))) (od_ixLE vl_f hv.1 hxm)) ?_
    -- what comes again
    refine st_seq (M := fun g r => ∃ x10 x20, g = [some (.lsq (ns.map D.int)), some (.str SIGNS), some (.ref p), some (.int (n : Nat)), some (.lst ((lawV n).map rowD)), some (rowD (rng n)), some (.lst (chs.map rowD)), none, some (.str (textV chs)), none, x10, some (metD cM "m" n chs), some (.lst ((courseV chs n).map rowD)), some (.lst (L.map rowX)), some (rowD (headV chs (rng n))), none, none, some (.lst ((fhK L).map rowD)), none, some (rowX x), x20, none, none, none, none] ∧ r = [rl p (diceD (rollD s3 L.length))])
      (st_forT (as := (srtR (nubR (fhK L))).take 5) (enc := rowD) (ei_eq (ei_tup (ev_slT (ev_callC (n := 1) (R := R_false cE cM) hfalse (ea_cons (ev_var rfl) ea_nil) rfl) eo_none (eo_some ev_int))) ?_) (fun i g r => ∃ x10 x20, g = [some (.lsq (ns.map D.int)), some (.str SIGNS), some (.ref p), some (.int (n : Nat)), some (.lst ((lawV n).map rowD)), some (rowD (rng n)), some (.lst (chs.map rowD)), none, some (.str (textV chs)), none, x10, some (metD cM "m" n chs), some (.lst ((courseV chs n).map rowD)), some (.lst (L.map rowX)), some (rowD (headV chs (rng n))), none, none, some (.lst ((fhK L).map rowD)), none, some (rowX x), x20, none, none, none, none] ∧ r = [rl p (diceD (rollD s3 L.length))]) ⟨_, _, rfl, rfl⟩ ?_ ?_) ?_
    · rw [cut_upto (by decide), ← List.map_take]
      rfl
    · rintro i one g r hi hmo ⟨x10, x20, rfl, rfl⟩
      have hmf : one ∈ fhK L := srt_sub (List.mem_of_mem_take hmo)
      rw [← hL] at hmf
      have hop := fh_perm hmt hmf
      obtain ⟨rw1, hr1, hr2⟩ := again_in hmt hmf
      rw [hL] at hr2
      refine ⟨_, _, eg_name, ?_⟩
      refine sq_set (ev_callC (n := 2) (R := R_llead) (llead_ok hmt hop) (ea_cons (ev_var rfl) (ea_cons (ev_var rfl) ea_nil)) rfl) ?_
      have hle : (leadV chs one).length ≤ 8 := by rw [lead_len]; omega
      generalize leadV chs one = A at hr1 hle
      refine st_if (b := false) (et_eq (et_test (ev_op (en_lcT (as := A) (enc := rowX) (b := fun row => decide (row ∈ L)) (fe := fun _ => (1 : Int)) D.int (ei_lst (ev_var rfl)) (by omega) fun q hq => ⟨_, _, eg_name, by decide, et_eq (et_test (ev_op (ev_varW rfl) (ev_wL (ev_var rfl)) (od_inD (a := rowD q) vd_f vl_f (sh_row _) (sh_rows _)))) (any_rows L q), fun _ => ev_int⟩).ev (en_lst ea_nil (by simp)).ev (od_eqD vd_f (vd_f (d := .lst [])) (sh_il _) (sh_il [])))) ?_) (fun z => by cases z) (fun _ => st_next ⟨_, _, rfl, rfl⟩)
      rw [eq_nil]
      refine decide_eq_false fun z => ?_
      have hm : rw1 ∈ A.filter fun row => decide (row ∈ L) := List.mem_filter.mpr ⟨hr1, by simpa using hr2⟩
      have : A.filter (fun row => decide (row ∈ L)) = [] := by simpa using z
      rw [this] at hm
      cases hm
    · rintro g r ⟨x10, x20, rfl, rfl⟩
      exact ⟨_, _, rfl, rfl⟩
    rintro g r ⟨x10, x20, rfl, rfl⟩
    have hxp := hlp x hxo
    refine st_if (b := false) (et_eq (et_test (ev_op (en_listOf (ea_cons (ev_wT (ev_meth (n := 2) (lead_ok hmt hxp) (ev_var rfl) in_f (ea_cons (ev_varW rfl) ea_nil))) ea_nil) vs_t).ev (ev_wL (ev_callC (n := 2) (R := R_llead) (llead_ok hmt hxp) (ea_cons (ev_varW rfl) (ea_cons (ev_var rfl) ea_nil)) rfl)) (od_neD vd_f vd_f (sh_rows _) (sh_rows _)))) (hneR _)) (fun z => by cases z) (fun _ => st_next ⟨rfl, fun z => by cases z⟩)
  · rintro g r hg
    refine sq_asg (ev_tup (ds := [metD cM "little" 6 chL, metD cM "large" 9 chG]) (r' := r) (ea_cons (r1 := r) (ev_make (n := 4) (ns := mN) (es := [.str "little", .int (6 : Nat), .tup (chL.map rowD)]) (fun q => init_L (cRow := cRow) (cPl := cPl)) (ea_cons ev_str (ea_cons ev_int (ea_cons ev_str ea_nil)))) (ea_cons (r1 := r) (ev_make (n := 4) (ns := mN) (es := [.str "large", .int (9 : Nat), .tup (chG.map rowD)]) (fun q => init_G (cRow := cRow) (cPl := cPl)) (ea_cons ev_str (ea_cons ev_int (ea_cons ev_str ea_nil)))) ea_nil)) (by simp)) (eg_tup (egs_cons eg_name (egs_cons eg_name egs_nil)) rfl) ?_
    have h21 : ((g.set 21 (some (metD cM "little" 6 chL))).set 22 (some (metD cM "large" 9 chG)))[21]? = some (some (metD cM "little" 6 chL)) := by
      rw [List.getElem?_set_ne (by decide), List.getElem?_set_self (by omega)]
    have h22 : ((g.set 21 (some (metD cM "little" 6 chL))).set 22 (some (metD cM "large" 9 chG)))[22]? = some (some (metD cM "large" 9 chG)) := by
      rw [List.getElem?_set_self (by rw [List.length_set]; omega)]
    have hg' : ((g.set 21 (some (metD cM "little" 6 chL))).set 22 (some (metD cM "large" 9 chG))).length = 25 := by rw [List.length_set, List.length_set]; exact hg
    generalize (g.set 21 (some (metD cM "little" 6 chL))).set 22 (some (metD cM "large" 9 chG)) = g1 at h21 h22 hg'
    clear hg
    have lam1 : ∀ (I : LInfo) (g : G) (r : Rs), I.q = ("law.<locals>.<lambda>" : Str) → Ev T K (tLamV T.ls Pt I) g r (.lam I) r := fun I g r hI => ev_lam (by rw [hI]; exact hmT)
    have e1 : Ev T K _ g1 r (.lst ((badI (XL P w K mg base f c A outer s H E).env.cells).map D.lam)) r := EvN.ev (en_lst (T := T) (K := K) (g := g1) (r := r) (ds := (badI (XL P w K mg base f c A outer s H E).env.cells).map D.lam) (ea_cons (lam1 _ _ _ rfl) (ea_cons (lam1 _ _ _ rfl) (ea_cons (lam1 _ _ _ rfl) (ea_cons (lam1 _ _ _ rfl) (ea_cons (lam1 _ _ _ rfl) (ea_cons (lam1 _ _ _ rfl) (ea_cons (lam1 _ _ _ rfl) ea_nil))))))) (by rw [List.length_map, bad_len]; decide))
    refine sq_set e1 ?_
    generalize hbI : badI (XL P w K mg base f c A outer s H E).env.cells = bI0
    have h23 : (g1.set 23 (some (.lst (bI0.map D.lam))))[23]? = some (some (.lst (bI0.map D.lam))) := by
      rw [List.getElem?_set_self (by omega)]
    have h21' : (g1.set 23 (some (.lst (bI0.map D.lam))))[21]? = some (some (metD cM "little" 6 chL)) := by
      rw [List.getElem?_set_ne (by decide)]; exact h21
    have h22' : (g1.set 23 (some (.lst (bI0.map D.lam))))[22]? = some (some (metD cM "large" 9 chG)) := by
      rw [List.getElem?_set_ne (by decide)]; exact h22
    have hg2 : (g1.set 23 (some (.lst (bI0.map D.lam)))).length = 25 := by rw [List.length_set]; exact hg'
    generalize g1.set 23 (some (.lst (bI0.map D.lam))) = g2 at h23 h21' h22' hg2
    clear h21 h22 hg' e1
    have hbad := lam_all (P := P) (w := w) (mg := mg) (base := base) (T := T) (f := f) (c := c) (A := A) (outer := outer) (s := s) (H := H) (E := E) (g := g2) hx1 hx2 hx3 h21' h22' CM c_init c_lead c_path c_false
    rw [hbI] at hbad
    have bl7 : bI0.length = 7 := by rw [← hbI, bad_len]
    refine sq_no (et_or2 (et_eq (et_test (ev_op (en_lcJ0 (ds := bI0.map D.lam) (ei_lst (ev_var h23)) (by rw [List.length_map, bl7]; decide) fun i d hd => ?_).ev (en_lst ea_nil (by simp)).ev (od_neD (a := .lst []) (b := .lst []) vd_f vd_f rfl rfl))) rfl)
      (et_eq (et_test (ev_op (ev_tup (ea_cons (ev_fld (ev_var h21') in_f CM.c CM.n1 rfl) (ea_cons (ev_fld (ev_var h21') in_f CM.c CM.n2 rfl) ea_nil)) (by simp)) (ev_tup (ea_cons ev_str (ea_cons ev_int ea_nil)) (by simp)) (od_neD (a := .tup [.str "little", .int 6]) (b := .tup [.str "little", .int 6]) vd_f vd_f (by decide +kernel) (by decide +kernel)))) (by decide +kernel))) ?_
    · rw [List.getElem?_map] at hd
      cases hq : bI0[i]? with
      | none => rw [hq] at hd; cases hd
      | some I =>
        rw [hq] at hd
        cases hd
        obtain ⟨t, C, ht, hxC, hb⟩ := hbad I (List.mem_of_getElem? hq)
        refine ⟨_, _, eg_name, by simp, ej_told ?_ ht hxC fun E => hb E _⟩
        rw [List.getElem?_set_self]
        simp [wipeG]
        omega
    have and2 : ∀ {ta tb : TE}, Ev T K ta g2 r (.bl true) r → Ev T K tb g2 r (.bl true) r → Ev T K (tAndV ta tb) g2 r (.bl true) r := fun h1 h2 => ev_and (a := true) (b := true) h1 fun _ => h2
    refine st_retA (d := .bl true) (and2 ?_ (and2 ?_ (and2 ?_ (and2 ?_ (and2 ?_ (and2 ?_ ?_)))))) ⟨rfl, rfl⟩
    · exact (ev_op (ev_tux (ev_meth (n := 1) (R := R_head cM) ⟨"little", 6, chL, metOk_L, rfl, rfl, rfl⟩ (ev_var h21') in_f ea_nil)) (ev_tup (ea_cons ev_int (ea_cons ev_int (ea_cons ev_int (ea_cons ev_int (ea_cons ev_int (ea_cons ev_int ea_nil)))))) (by simp)) (od_eqD (a := rowD [1, 3, 5, 2, 6, 4]) (b := rowD [1, 3, 5, 2, 6, 4]) (by rw [head_L]; exact vd_f) vd_f rfl rfl)).of_eq rfl
    · exact (ev_op (ev_meth (n := 1) (R := R_leads cM) ⟨"little", 6, chL, metOk_L, by decide, cB_L, rfl, rfl, rfl⟩ (ev_var h21') in_f ea_nil) ev_int od_eqI).of_eq (by rw [len_L]; rfl)
    · exact (ev_meth (n := 1) (R := R_is_true cM) ⟨"little", 6, chL, metOk_L, by decide, cB_L, rfl, rfl, rfl⟩ (ev_var h21') in_f ea_nil).of_eq (by rw [nub_L, len_L]; rfl)
    · exact (ev_op (ev_meth (n := 1) (R := R_kind cM) ⟨"little", 6, chL, metOk_L, by decide, cB_L, rfl, rfl, rfl⟩ (ev_var h21') in_f ea_nil) ev_str od_eqS).of_eq (by rw [kind_L]; rfl)
    · exact (ev_op (ev_meth (n := 1) (R := R_hunters cM) ⟨"little", 6, chL, metOk_L, rfl, rfl, rfl⟩ (ev_var h21') in_f ea_nil) (ev_tup (ea_cons ev_int ea_nil) (by simp)) (od_eqD (a := rowD [1]) (b := rowD [1]) (by rw [hunt_L]; exact vd_f) vd_f rfl rfl)).of_eq rfl
    · exact (ev_meth (n := 1) (R := R_even cM) ⟨"little", 6, chL, metOk_L, rfl, rfl, rfl⟩ (ev_var h21') in_f ea_nil).of_eq (congrArg D.bl (decide_eq_true even_L))
    · exact (ev_op (ev_cb (ea_cons (ev_meth (n := 1) (R := R_course cM) ⟨"little", 6, chL, metOk_L, by decide, cB_L, rfl, rfl, rfl⟩ (ev_var h21') in_f ea_nil) ea_nil) (ca_len vs_t)) ev_int od_eqI).of_eq (by rw [List.length_map, len_L]; rfl)
end
end Bs
namespace Bs
open PySem PySem.Spec PyProof.Rows L2 DL LmX
/-! ### the head: facts by names -/
def dd0 : He.DefD := ⟨("rounds", none), "rounds", "rounds", defArgs s_rounds, defBody s_rounds, defScope s_rounds, [], []⟩
def dd1 : He.DefD := ⟨("check_row", none), "check_row", "check_row", defArgs s_check_row, defBody s_check_row, defScope s_check_row, [], []⟩
def dd2 : He.DefD := ⟨("permuted", none), "permuted", "permuted", defArgs s_permuted, defBody s_permuted, defScope s_permuted, [], []⟩
def dd3 : He.DefD := ⟨("undone", none), "undone", "undone", defArgs s_undone, defBody s_undone, defScope s_undone, [], []⟩
def dd4 : He.DefD := ⟨("check_places", none), "check_places", "check_places", defArgs s_check_places, defBody s_check_places, defScope s_check_places, [], []⟩
def dd5 : He.DefD := ⟨("changed", none), "changed", "changed", defArgs s_changed, defBody s_changed, defScope s_changed, [], []⟩
def dd6 : He.DefD := ⟨("places_of", none), "places_of", "places_of", defArgs s_places_of, defBody s_places_of, defScope s_places_of, [], []⟩
def dd7 : He.DefD := ⟨("plain_changes", none), "plain_changes", "plain_changes", defArgs s_plain_changes, defBody s_plain_changes, defScope s_plain_changes, [], []⟩
def dd8 : He.DefD := ⟨("changes_of", none), "changes_of", "changes_of", defArgs s_changes_of, defBody s_changes_of, defScope s_changes_of, [], []⟩
def dd9 : He.DefD := ⟨("Method", some "__init__"), "__init__", "Method.__init__", defArgs s_Method___init__, defBody s_Method___init__, defScope s_Method___init__, [], []⟩
def dd10 : He.DefD := ⟨("Method", some "lead"), "lead", "Method.lead", defArgs s_Method_lead, defBody s_Method_lead, defScope s_Method_lead, [], []⟩
def dd11 : He.DefD := ⟨("Method", some "head"), "head", "Method.head", defArgs s_Method_head, defBody s_Method_head, defScope s_Method_head, [], []⟩
def dd12 : He.DefD := ⟨("Method", some "course"), "course", "Method.course", defArgs s_Method_course, defBody s_Method_course, defScope s_Method_course, [], []⟩
def dd13 : He.DefD := ⟨("Method", some "leads"), "leads", "Method.leads", defArgs s_Method_leads, defBody s_Method_leads, defScope s_Method_leads, [], []⟩
def dd14 : He.DefD := ⟨("Method", some "is_true"), "is_true", "Method.is_true", defArgs s_Method_is_true, defBody s_Method_is_true, defScope s_Method_is_true, [], []⟩
def dd15 : He.DefD := ⟨("Method", some "hunters"), "hunters", "Method.hunters", defArgs s_Method_hunters, defBody s_Method_hunters, defScope s_Method_hunters, [], []⟩
def dd16 : He.DefD := ⟨("Method", some "path"), "path", "Method.path", defArgs s_Method_path, defBody s_Method_path, defScope s_Method_path, [], []⟩
def dd17 : He.DefD := ⟨("Method", some "is_even_sided"), "is_even_sided", "Method.is_even_sided", defArgs s_Method_is_even_sided, defBody s_Method_is_even_sided, defScope s_Method_is_even_sided, [], []⟩
def dd18 : He.DefD := ⟨("Method", some "most_blows"), "most_blows", "Method.most_blows", defArgs s_Method_most_blows, defBody s_Method_most_blows, defScope s_Method_most_blows, [], []⟩
def dd19 : He.DefD := ⟨("Method", some "kind"), "kind", "Method.kind", defArgs s_Method_kind, defBody s_Method_kind, defScope s_Method_kind, [], []⟩
def dd20 : He.DefD := ⟨("false_heads", none), "false_heads", "false_heads", defArgs s_false_heads, defBody s_false_heads, defScope s_false_heads, [], []⟩
def dd21 : He.DefD := ⟨("_law_dice", none), "_law_dice", "_law_dice", defArgs s__law_dice, defBody s__law_dice, defScope s__law_dice, [], []⟩
def dd22 : He.DefD := ⟨("_law_roll", none), "_law_roll", "_law_roll", defArgs s__law_roll, defBody s__law_roll, defScope s__law_roll, [], []⟩
def dd23 : He.DefD := ⟨("_law_rounds", none), "_law_rounds", "_law_rounds", defArgs s__law_rounds, defBody s__law_rounds, defScope s__law_rounds, [], []⟩
def dd24 : He.DefD := ⟨("_law_told", none), "_law_told", "_law_told", defArgs s__law_told, defBody s__law_told, defScope s__law_told, [], []⟩
def dd25 : He.DefD := ⟨("_law_changed", none), "_law_changed", "_law_changed", defArgs s__law_changed, defBody s__law_changed, defScope s__law_changed, [], []⟩
def dd26 : He.DefD := ⟨("_law_changes", none), "_law_changes", "_law_changes", defArgs s__law_changes, defBody s__law_changes, defScope s__law_changes, [], []⟩
def dd27 : He.DefD := ⟨("_law_lead", none), "_law_lead", "_law_lead", defArgs s__law_lead, defBody s__law_lead, defScope s__law_lead, [], []⟩
def dd28 : He.DefD := ⟨("_law_course", none), "_law_course", "_law_course", defArgs s__law_course, defBody s__law_course, defScope s__law_course, [], []⟩
def dd29 : He.DefD := ⟨("_law_kind", none), "_law_kind", "_law_kind", defArgs s__law_kind, defBody s__law_kind, defScope s__law_kind, [], []⟩
def dd30 : He.DefD := ⟨("_law_blows", none), "_law_blows", "_law_blows", defArgs s__law_blows, defBody s__law_blows, defScope s__law_blows, [], []⟩
def dd31 : He.DefD := ⟨("law", none), "law", "law", defArgs s_law, defBody s_law, defScope s_law, [], []⟩
def dfs : List He.DefD := [dd0, dd1, dd2, dd3, dd4, dd5, dd6, dd7, dd8, dd9, dd10, dd11, dd12, dd13, dd14, dd15, dd16, dd17, dd18, dd19, dd20, dd21, dd22, dd23, dd24, dd25, dd26, dd27, dd28, dd29, dd30, dd31]
def fas : List He.Fa := [.glo "rounds", .glo "check_row", .glo "permuted", .glo "undone", .glo "check_places", .glo "changed", .glo "places_of", .glo "plain_changes", .glo "changes_of", .meth "Method" "lead", .meth "Method" "head", .meth "Method" "course", .meth "Method" "leads", .meth "Method" "is_true", .meth "Method" "hunters", .meth "Method" "path", .meth "Method" "is_even_sided", .meth "Method" "most_blows", .meth "Method" "kind", .glo "false_heads", .glo "_law_dice", .glo "_law_roll", .glo "_law_rounds", .glo "_law_told", .glo "_law_changed", .glo "_law_changes", .glo "_law_lead", .glo "_law_course", .glo "_law_kind", .glo "_law_blows", .glo "law", .glo "Method", .cls "Method", .mkr "Method", .noat "Method" "name", .noat "Method" "bells", .noat "Method" "changes", .glo "RowError", .exc "RowError", .glo "PlaceError", .exc "PlaceError", .glo "MethodError", .exc "MethodError", .glo "BellError", .exc "BellError", .exm "RowError" "BellError" true, .exm "PlaceError" "BellError" true, .exm "MethodError" "BellError" true, .str "SIGNS_OF_BELLS" "1234567890ET", .int "MOST_CHANGES" 400, .free "tuple", .free "range", .free "sorted", .free "len", .free "any", .free "list", .free "abs", .free "int", .free "sum", .free "zip", .free "enumerate", .free "min", .free "max", .free "dict"]
def tfs : List He.Defn := [("law", none), ("permuted", none), ("undone", none), ("check_places", none), ("places_of", none), ("Method", some "hunters"), ("Method", some "path")]
def exB (K : PySem.W.Frag) : Bool := (decide ((He.cT K ("law", none)).2 ≠ (He.cT K ("permuted", none)).2) && decide ((He.cT K ("law", none)).2 ≠ (He.cT K ("undone", none)).2) && decide ((He.cT K ("law", none)).2 ≠ (He.cT K ("check_places", none)).2) && decide ((He.cT K ("law", none)).2 ≠ (He.cT K ("places_of", none)).2) && decide ((He.cT K ("law", none)).2 ≠ (He.cT K ("Method", some "hunters")).2) && decide ((He.cT K ("law", none)).2 ≠ (He.cT K ("Method", some "path")).2))
theorem code_at {K : PySem.W.Frag} {x qual : Str} {st : Stmt} {fd : FuncData} {p : He.Defn} (F : Fun K x qual st (He.fAd K p) fd) : fd.code = .ref (He.cT K p).1 := by
  obtain ⟨oc, od, kV, doc, pm, an, cdv, ct, osl, rfl, lk, hcd⟩ := F.ex
  obtain ⟨c, rfl⟩ := He.codeIn_ref hcd
  show Value.ref c = .ref (He.codeOf K p)
  rw [He.codeOf_eq lk rfl]
theorem facts {l : PySem.W.OpenLaw} {w : World} {K : PySem.W.Frag} {h : Heap} {mg : Str → Option Value} {fa : Addr} (X : K.In h) (G : h.Ns mainGlobals mg) (hfa : mg ("law" : Str) = some (.ref fa)) (c : He.SaysX fas dfs [] tfs exB w h K) : LamX.LawAtS l w K (L2.CX l.prog w) 11 63 "script" mg fa h := by
  have c0 := c.t.d
  have g_rounds : mg "rounds" = some (.ref (He.ga K "rounds")) := He.glo_ok X G (c0.fact 0 (f := .glo "rounds") rfl)
  have g_check_row : mg "check_row" = some (.ref (He.ga K "check_row")) := He.glo_ok X G (c0.fact 1 (f := .glo "check_row") rfl)
  have g_permuted : mg "permuted" = some (.ref (He.ga K "permuted")) := He.glo_ok X G (c0.fact 2 (f := .glo "permuted") rfl)
  have g_undone : mg "undone" = some (.ref (He.ga K "undone")) := He.glo_ok X G (c0.fact 3 (f := .glo "undone") rfl)
  have g_check_places : mg "check_places" = some (.ref (He.ga K "check_places")) := He.glo_ok X G (c0.fact 4 (f := .glo "check_places") rfl)
  have g_changed : mg "changed" = some (.ref (He.ga K "changed")) := He.glo_ok X G (c0.fact 5 (f := .glo "changed") rfl)
  have g_places_of : mg "places_of" = some (.ref (He.ga K "places_of")) := He.glo_ok X G (c0.fact 6 (f := .glo "places_of") rfl)
  have g_plain_changes : mg "plain_changes" = some (.ref (He.ga K "plain_changes")) := He.glo_ok X G (c0.fact 7 (f := .glo "plain_changes") rfl)
  have g_changes_of : mg "changes_of" = some (.ref (He.ga K "changes_of")) := He.glo_ok X G (c0.fact 8 (f := .glo "changes_of") rfl)
  have g_false_heads : mg "false_heads" = some (.ref (He.ga K "false_heads")) := He.glo_ok X G (c0.fact 19 (f := .glo "false_heads") rfl)
  have g__law_dice : mg "_law_dice" = some (.ref (He.ga K "_law_dice")) := He.glo_ok X G (c0.fact 20 (f := .glo "_law_dice") rfl)
  have g__law_roll : mg "_law_roll" = some (.ref (He.ga K "_law_roll")) := He.glo_ok X G (c0.fact 21 (f := .glo "_law_roll") rfl)
  have g__law_rounds : mg "_law_rounds" = some (.ref (He.ga K "_law_rounds")) := He.glo_ok X G (c0.fact 22 (f := .glo "_law_rounds") rfl)
  have g__law_told : mg "_law_told" = some (.ref (He.ga K "_law_told")) := He.glo_ok X G (c0.fact 23 (f := .glo "_law_told") rfl)
  have g__law_changed : mg "_law_changed" = some (.ref (He.ga K "_law_changed")) := He.glo_ok X G (c0.fact 24 (f := .glo "_law_changed") rfl)
  have g__law_changes : mg "_law_changes" = some (.ref (He.ga K "_law_changes")) := He.glo_ok X G (c0.fact 25 (f := .glo "_law_changes") rfl)
  have g__law_lead : mg "_law_lead" = some (.ref (He.ga K "_law_lead")) := He.glo_ok X G (c0.fact 26 (f := .glo "_law_lead") rfl)
  have g__law_course : mg "_law_course" = some (.ref (He.ga K "_law_course")) := He.glo_ok X G (c0.fact 27 (f := .glo "_law_course") rfl)
  have g__law_kind : mg "_law_kind" = some (.ref (He.ga K "_law_kind")) := He.glo_ok X G (c0.fact 28 (f := .glo "_law_kind") rfl)
  have g__law_blows : mg "_law_blows" = some (.ref (He.ga K "_law_blows")) := He.glo_ok X G (c0.fact 29 (f := .glo "_law_blows") rfl)
  have g_law : mg "law" = some (.ref (He.ga K "law")) := He.glo_ok X G (c0.fact 30 (f := .glo "law") rfl)
  have e := hfa.symm.trans g_law
  cases e
  obtain ⟨fd0, FD0⟩ := c0.def_ 0 (d := dd0) rfl
  have F0 : Fun K "rounds" "rounds" s_rounds (He.ga K "rounds") fd0 := He5.fun_of FD0
  have b0 : L2.Binds K fd0 ["bells"] [] := L2.FunD.bindsN FD0 fun _ _ _ _ _ _ us hl => match us, hl with | [_], _ => rfl
  obtain ⟨fd1, FD1⟩ := c0.def_ 1 (d := dd1) rfl
  have F1 : Fun K "check_row" "check_row" s_check_row (He.ga K "check_row") fd1 := He5.fun_of FD1
  have b1 : L2.Binds K fd1 ["row"] [] := L2.FunD.bindsN FD1 fun _ _ _ _ _ _ us hl => match us, hl with | [_], _ => rfl
  obtain ⟨fd2, FD2⟩ := c0.def_ 2 (d := dd2) rfl
  have F2 : Fun K "permuted" "permuted" s_permuted (He.ga K "permuted") fd2 := He5.fun_of FD2
  have b2 : L2.Binds K fd2 ["row", "other"] [] := L2.FunD.bindsN FD2 fun _ _ _ _ _ _ us hl => match us, hl with | [_, _], _ => rfl
  have h_permuted : fd2.code = .ref (He.cT K ("permuted", none)).1 := code_at (p := ("permuted", none)) F2
  obtain ⟨fd3, FD3⟩ := c0.def_ 3 (d := dd3) rfl
  have F3 : Fun K "undone" "undone" s_undone (He.ga K "undone") fd3 := He5.fun_of FD3
  have b3 : L2.Binds K fd3 ["row"] [] := L2.FunD.bindsN FD3 fun _ _ _ _ _ _ us hl => match us, hl with | [_], _ => rfl
  have h_undone : fd3.code = .ref (He.cT K ("undone", none)).1 := code_at (p := ("undone", none)) F3
  obtain ⟨fd4, FD4⟩ := c0.def_ 4 (d := dd4) rfl
  have F4 : Fun K "check_places" "check_places" s_check_places (He.ga K "check_places") fd4 := He5.fun_of FD4
  have b4 : L2.Binds K fd4 ["places", "bells"] [] := L2.FunD.bindsN FD4 fun _ _ _ _ _ _ us hl => match us, hl with | [_, _], _ => rfl
  have h_check_places : fd4.code = .ref (He.cT K ("check_places", none)).1 := code_at (p := ("check_places", none)) F4
  obtain ⟨fd5, FD5⟩ := c0.def_ 5 (d := dd5) rfl
  have F5 : Fun K "changed" "changed" s_changed (He.ga K "changed") fd5 := He5.fun_of FD5
  have b5 : L2.Binds K fd5 ["row", "places"] [] := L2.FunD.bindsN FD5 fun _ _ _ _ _ _ us hl => match us, hl with | [_, _], _ => rfl
  obtain ⟨fd6, FD6⟩ := c0.def_ 6 (d := dd6) rfl
  have F6 : Fun K "places_of" "places_of" s_places_of (He.ga K "places_of") fd6 := He5.fun_of FD6
  have b6 : L2.Binds K fd6 ["text", "bells"] [] := L2.FunD.bindsN FD6 fun _ _ _ _ _ _ us hl => match us, hl with | [_, _], _ => rfl
  have h_places_of : fd6.code = .ref (He.cT K ("places_of", none)).1 := code_at (p := ("places_of", none)) F6
  obtain ⟨fd7, FD7⟩ := c0.def_ 7 (d := dd7) rfl
  have F7 : Fun K "plain_changes" "plain_changes" s_plain_changes (He.ga K "plain_changes") fd7 := He5.fun_of FD7
  have b7 : L2.Binds K fd7 ["text", "bells"] [] := L2.FunD.bindsN FD7 fun _ _ _ _ _ _ us hl => match us, hl with | [_, _], _ => rfl
  obtain ⟨fd8, FD8⟩ := c0.def_ 8 (d := dd8) rfl
  have F8 : Fun K "changes_of" "changes_of" s_changes_of (He.ga K "changes_of") fd8 := He5.fun_of FD8
  have b8 : L2.Binds K fd8 ["text", "bells"] [] := L2.FunD.bindsN FD8 fun _ _ _ _ _ _ us hl => match us, hl with | [_, _], _ => rfl
  obtain ⟨fd9, FD9⟩ := c0.def_ 9 (d := dd9) rfl
  have F9 : Fun K "__init__" "Method.__init__" s_Method___init__ (He.ma K (He.ga K "Method") "__init__") fd9 := He5.fun_of FD9
  have b9 : L2.Binds K fd9 ["self", "name", "bells", "text"] [] := L2.FunD.bindsN FD9 fun _ _ _ _ _ _ us hl => match us, hl with | [_, _, _, _], _ => rfl
  obtain ⟨fd10, FD10⟩ := c0.def_ 10 (d := dd10) rfl
  have F10 : Fun K "lead" "Method.lead" s_Method_lead (He.ma K (He.ga K "Method") "lead") fd10 := He5.fun_of FD10
  have b10 : L2.Binds K fd10 ["self", "row"] [] := L2.FunD.bindsN FD10 fun _ _ _ _ _ _ us hl => match us, hl with | [_, _], _ => rfl
  obtain ⟨fd11, FD11⟩ := c0.def_ 11 (d := dd11) rfl
  have F11 : Fun K "head" "Method.head" s_Method_head (He.ma K (He.ga K "Method") "head") fd11 := He5.fun_of FD11
  have b11 : L2.Binds K fd11 ["self"] [] := L2.FunD.bindsN FD11 fun _ _ _ _ _ _ us hl => match us, hl with | [_], _ => rfl
  obtain ⟨fd12, FD12⟩ := c0.def_ 12 (d := dd12) rfl
  have F12 : Fun K "course" "Method.course" s_Method_course (He.ma K (He.ga K "Method") "course") fd12 := He5.fun_of FD12
  have b12 : L2.Binds K fd12 ["self"] [] := L2.FunD.bindsN FD12 fun _ _ _ _ _ _ us hl => match us, hl with | [_], _ => rfl
  obtain ⟨fd13, FD13⟩ := c0.def_ 13 (d := dd13) rfl
  have F13 : Fun K "leads" "Method.leads" s_Method_leads (He.ma K (He.ga K "Method") "leads") fd13 := He5.fun_of FD13
  have b13 : L2.Binds K fd13 ["self"] [] := L2.FunD.bindsN FD13 fun _ _ _ _ _ _ us hl => match us, hl with | [_], _ => rfl
  obtain ⟨fd14, FD14⟩ := c0.def_ 14 (d := dd14) rfl
  have F14 : Fun K "is_true" "Method.is_true" s_Method_is_true (He.ma K (He.ga K "Method") "is_true") fd14 := He5.fun_of FD14
  have b14 : L2.Binds K fd14 ["self"] [] := L2.FunD.bindsN FD14 fun _ _ _ _ _ _ us hl => match us, hl with | [_], _ => rfl
  obtain ⟨fd15, FD15⟩ := c0.def_ 15 (d := dd15) rfl
  have F15 : Fun K "hunters" "Method.hunters" s_Method_hunters (He.ma K (He.ga K "Method") "hunters") fd15 := He5.fun_of FD15
  have b15 : L2.Binds K fd15 ["self"] [] := L2.FunD.bindsN FD15 fun _ _ _ _ _ _ us hl => match us, hl with | [_], _ => rfl
  have h_Method_hunters : fd15.code = .ref (He.cT K ("Method", some "hunters")).1 := code_at (p := ("Method", some "hunters")) F15
  obtain ⟨fd16, FD16⟩ := c0.def_ 16 (d := dd16) rfl
  have F16 : Fun K "path" "Method.path" s_Method_path (He.ma K (He.ga K "Method") "path") fd16 := He5.fun_of FD16
  have b16 : L2.Binds K fd16 ["self", "bell"] [] := L2.FunD.bindsN FD16 fun _ _ _ _ _ _ us hl => match us, hl with | [_, _], _ => rfl
  have h_Method_path : fd16.code = .ref (He.cT K ("Method", some "path")).1 := code_at (p := ("Method", some "path")) F16
  obtain ⟨fd17, FD17⟩ := c0.def_ 17 (d := dd17) rfl
  have F17 : Fun K "is_even_sided" "Method.is_even_sided" s_Method_is_even_sided (He.ma K (He.ga K "Method") "is_even_sided") fd17 := He5.fun_of FD17
  have b17 : L2.Binds K fd17 ["self"] [] := L2.FunD.bindsN FD17 fun _ _ _ _ _ _ us hl => match us, hl with | [_], _ => rfl
  obtain ⟨fd18, FD18⟩ := c0.def_ 18 (d := dd18) rfl
  have F18 : Fun K "most_blows" "Method.most_blows" s_Method_most_blows (He.ma K (He.ga K "Method") "most_blows") fd18 := He5.fun_of FD18
  have b18 : L2.Binds K fd18 ["self"] [] := L2.FunD.bindsN FD18 fun _ _ _ _ _ _ us hl => match us, hl with | [_], _ => rfl
  obtain ⟨fd19, FD19⟩ := c0.def_ 19 (d := dd19) rfl
  have F19 : Fun K "kind" "Method.kind" s_Method_kind (He.ma K (He.ga K "Method") "kind") fd19 := He5.fun_of FD19
  have b19 : L2.Binds K fd19 ["self"] [] := L2.FunD.bindsN FD19 fun _ _ _ _ _ _ us hl => match us, hl with | [_], _ => rfl
  obtain ⟨fd20, FD20⟩ := c0.def_ 20 (d := dd20) rfl
  have F20 : Fun K "false_heads" "false_heads" s_false_heads (He.ga K "false_heads") fd20 := He5.fun_of FD20
  have b20 : L2.Binds K fd20 ["method"] [] := L2.FunD.bindsN FD20 fun _ _ _ _ _ _ us hl => match us, hl with | [_], _ => rfl
  obtain ⟨fd21, FD21⟩ := c0.def_ 21 (d := dd21) rfl
  have F21 : Fun K "_law_dice" "_law_dice" s__law_dice (He.ga K "_law_dice") fd21 := He5.fun_of FD21
  have b21 : L2.Binds K fd21 ["cell"] [] := L2.FunD.bindsN FD21 fun _ _ _ _ _ _ us hl => match us, hl with | [_], _ => rfl
  obtain ⟨fd22, FD22⟩ := c0.def_ 22 (d := dd22) rfl
  have F22 : Fun K "_law_roll" "_law_roll" s__law_roll (He.ga K "_law_roll") fd22 := He5.fun_of FD22
  have b22 : L2.Binds K fd22 ["dice", "many"] [] := L2.FunD.bindsN FD22 fun _ _ _ _ _ _ us hl => match us, hl with | [_, _], _ => rfl
  obtain ⟨fd23, FD23⟩ := c0.def_ 23 (d := dd23) rfl
  have F23 : Fun K "_law_rounds" "_law_rounds" s__law_rounds (He.ga K "_law_rounds") fd23 := He5.fun_of FD23
  have b23 : L2.Binds K fd23 ["script", "most"] [] := L2.FunD.bindsN FD23 fun _ _ _ _ _ _ us hl => match us, hl with | [_, _], _ => rfl
  obtain ⟨fd24, FD24⟩ := c0.def_ 24 (d := dd24) rfl
  have F24 : Fun K "_law_told" "_law_told" s__law_told (He.ga K "_law_told") fd24 := He5.fun_of FD24
  have b24 : L2.Binds K fd24 ["what"] [] := L2.FunD.bindsN FD24 fun _ _ _ _ _ _ us hl => match us, hl with | [_], _ => rfl
  obtain ⟨fd25, FD25⟩ := c0.def_ 25 (d := dd25) rfl
  have F25 : Fun K "_law_changed" "_law_changed" s__law_changed (He.ga K "_law_changed") fd25 := He5.fun_of FD25
  have b25 : L2.Binds K fd25 ["row", "places"] [] := L2.FunD.bindsN FD25 fun _ _ _ _ _ _ us hl => match us, hl with | [_, _], _ => rfl
  obtain ⟨fd26, FD26⟩ := c0.def_ 26 (d := dd26) rfl
  have F26 : Fun K "_law_changes" "_law_changes" s__law_changes (He.ga K "_law_changes") fd26 := He5.fun_of FD26
  have b26 : L2.Binds K fd26 ["bells"] [] := L2.FunD.bindsN FD26 fun _ _ _ _ _ _ us hl => match us, hl with | [_], _ => rfl
  obtain ⟨fd27, FD27⟩ := c0.def_ 27 (d := dd27) rfl
  have F27 : Fun K "_law_lead" "_law_lead" s__law_lead (He.ga K "_law_lead") fd27 := He5.fun_of FD27
  have b27 : L2.Binds K fd27 ["row", "changes"] [] := L2.FunD.bindsN FD27 fun _ _ _ _ _ _ us hl => match us, hl with | [_, _], _ => rfl
  obtain ⟨fd28, FD28⟩ := c0.def_ 28 (d := dd28) rfl
  have F28 : Fun K "_law_course" "_law_course" s__law_course (He.ga K "_law_course") fd28 := He5.fun_of FD28
  have b28 : L2.Binds K fd28 ["bells", "changes"] [] := L2.FunD.bindsN FD28 fun _ _ _ _ _ _ us hl => match us, hl with | [_, _], _ => rfl
  obtain ⟨fd29, FD29⟩ := c0.def_ 29 (d := dd29) rfl
  have F29 : Fun K "_law_kind" "_law_kind" s__law_kind (He.ga K "_law_kind") fd29 := He5.fun_of FD29
  have b29 : L2.Binds K fd29 ["bells", "changes"] [] := L2.FunD.bindsN FD29 fun _ _ _ _ _ _ us hl => match us, hl with | [_, _], _ => rfl
  obtain ⟨fd30, FD30⟩ := c0.def_ 30 (d := dd30) rfl
  have F30 : Fun K "_law_blows" "_law_blows" s__law_blows (He.ga K "_law_blows") fd30 := He5.fun_of FD30
  have b30 : L2.Binds K fd30 ["rows", "bells"] [] := L2.FunD.bindsN FD30 fun _ _ _ _ _ _ us hl => match us, hl with | [_, _], _ => rfl
  obtain ⟨fd31, FD31⟩ := c0.def_ 31 (d := dd31) rfl
  have F31 : Fun K "law" "law" s_law (He.ga K "law") fd31 := He5.fun_of FD31
  have b31 : L2.Binds K fd31 ["script"] [] := L2.FunD.bindsN FD31 fun _ _ _ _ _ _ us hl => match us, hl with | [_], _ => rfl
  have h_law : fd31.code = .ref (He.cT K ("law", none)).1 := code_at (p := ("law", none)) F31
  have gc_Method : mg "Method" = some (.ref (He.ga K "Method")) := He.glo_ok X G (c0.fact 31 (f := .glo "Method") rfl)
  have mk_Method := He.mkr_ok (c0.fact 33 (f := .mkr "Method") rfl)
  have CMethod : ClsM K (He.ga K "Method") := ⟨He.cls_ok (c0.fact 32 (f := .cls "Method") rfl), He.noat_ok (c0.fact 34 (f := .noat "Method" "name") rfl), He.noat_ok (c0.fact 35 (f := .noat "Method" "bells") rfl), He.noat_ok (c0.fact 36 (f := .noat "Method" "changes") rfl)⟩
  have B : Bi mg := ⟨He.free_ok X G (c0.fact 50 (f := .free "tuple") rfl), He.free_ok X G (c0.fact 51 (f := .free "range") rfl), He.free_ok X G (c0.fact 52 (f := .free "sorted") rfl), He.free_ok X G (c0.fact 53 (f := .free "len") rfl), He.free_ok X G (c0.fact 54 (f := .free "any") rfl), He.free_ok X G (c0.fact 55 (f := .free "list") rfl), He.free_ok X G (c0.fact 56 (f := .free "abs") rfl), He.free_ok X G (c0.fact 57 (f := .free "int") rfl), He.free_ok X G (c0.fact 58 (f := .free "sum") rfl), He.free_ok X G (c0.fact 59 (f := .free "zip") rfl), He.free_ok X G (c0.fact 60 (f := .free "enumerate") rfl), He.free_ok X G (c0.fact 61 (f := .free "min") rfl), He.free_ok X G (c0.fact 62 (f := .free "max") rfl), He.free_ok X G (c0.fact 63 (f := .free "dict") rfl)⟩
  have eR : Er K mg "RowError" (He.ga K "RowError") := ⟨He.glo_ok X G (c0.fact 37 (f := .glo "RowError") rfl), (He.exc_ok (c0.fact 38 (f := .exc "RowError") rfl)).2.1, (He.exc_ok (c0.fact 38 (f := .exc "RowError") rfl)).1, (He.exc_ok (c0.fact 38 (f := .exc "RowError") rfl)).2.2.1, (He.exc_ok (c0.fact 38 (f := .exc "RowError") rfl)).2.2.2⟩
  have eP : Er K mg "PlaceError" (He.ga K "PlaceError") := ⟨He.glo_ok X G (c0.fact 39 (f := .glo "PlaceError") rfl), (He.exc_ok (c0.fact 40 (f := .exc "PlaceError") rfl)).2.1, (He.exc_ok (c0.fact 40 (f := .exc "PlaceError") rfl)).1, (He.exc_ok (c0.fact 40 (f := .exc "PlaceError") rfl)).2.2.1, (He.exc_ok (c0.fact 40 (f := .exc "PlaceError") rfl)).2.2.2⟩
  have eE : Er K mg "MethodError" (He.ga K "MethodError") := ⟨He.glo_ok X G (c0.fact 41 (f := .glo "MethodError") rfl), (He.exc_ok (c0.fact 42 (f := .exc "MethodError") rfl)).2.1, (He.exc_ok (c0.fact 42 (f := .exc "MethodError") rfl)).1, (He.exc_ok (c0.fact 42 (f := .exc "MethodError") rfl)).2.2.1, (He.exc_ok (c0.fact 42 (f := .exc "MethodError") rfl)).2.2.2⟩
  have eBell : Er K mg "BellError" (He.ga K "BellError") := ⟨He.glo_ok X G (c0.fact 43 (f := .glo "BellError") rfl), (He.exc_ok (c0.fact 44 (f := .exc "BellError") rfl)).2.1, (He.exc_ok (c0.fact 44 (f := .exc "BellError") rfl)).1, (He.exc_ok (c0.fact 44 (f := .exc "BellError") rfl)).2.2.1, (He.exc_ok (c0.fact 44 (f := .exc "BellError") rfl)).2.2.2⟩
  have xR := He.exm_ok (c0.fact 45 (f := .exm "RowError" "BellError" true) rfl)
  have xP := He.exm_ok (c0.fact 46 (f := .exm "PlaceError" "BellError" true) rfl)
  have xE := He.exm_ok (c0.fact 47 (f := .exm "MethodError" "BellError" true) rfl)
  obtain ⟨tokS, vS⟩ := He.str_ok X G (c0.fact 48 (f := .str "SIGNS_OF_BELLS" "1234567890ET") rfl)
  have wS : mg "SIGNS_OF_BELLS" = some (.str "1234567890ET" tokS) ∧ RelV (.str SIGNS) (.str "1234567890ET" tokS) := ⟨vS, tokS, rfl⟩
  obtain ⟨tokM, vM⟩ := He.int_ok X G (c0.fact 49 (f := .int "MOST_CHANGES" 400) rfl)
  have wM : mg "MOST_CHANGES" = some (.int 400 tokM) ∧ RelV (.int 400) (.int 400 tokM) := ⟨vM, tokM, rfl⟩
  have hex := c.more
  unfold exB at hex
  simp only [Bool.and_eq_true, decide_eq_true_eq] at hex
  have dj : ∀ P ∈ ([(He.cT K ("permuted", none)).2, (He.cT K ("undone", none)).2, (He.cT K ("check_places", none)).2, (He.cT K ("places_of", none)).2, (He.cT K ("Method", some "hunters")).2, (He.cT K ("Method", some "path")).2] : List Addr), ∀ p ∈ ([((He.cT K ("law", none)).2, ("law.<locals>.<lambda>" : Str))] : List (Addr × Str)), p.1 ≠ P := fun P hP p hp => by
    simp only [List.mem_cons, List.not_mem_nil, or_false] at hP hp
    rcases hP with rfl | rfl | rfl | rfl | rfl | rfl
    · subst hp
      exact hex.1.1.1.1.1
    · subst hp
      exact hex.1.1.1.1.2
    · subst hp
      exact hex.1.1.1.2
    · subst hp
      exact hex.1.1.2
    · subst hp
      exact hex.1.2
    · subst hp
      exact hex.2
  let T : Tb := { gs := [(He.cT K ("permuted", none)).2, (He.cT K ("undone", none)).2, (He.cT K ("check_places", none)).2, (He.cT K ("places_of", none)).2, (He.cT K ("Method", some "hunters")).2, (He.cT K ("Method", some "path")).2], ls := [((He.cT K ("law", none)).2, ("law.<locals>.<lambda>" : Str))], dj := dj }
  have hbl : ∀ (s : Shared) (u : Value), BindsTo s fd31 ⟨[u], []⟩ [("script", u)] := fun s u => L2.FunD.bindsA (ps := ["script"]) FD31 (fun _ _ _ _ _ _ us hl => match us, hl with | [_], _ => rfl) s [u] rfl
  refine ⟨fd31, tfs.map (He.cT K), spR T K 1 R_law, fun p hp => ?_, fun p hp => ?_, fun p hp => ?_, hbl, ?_, ?_⟩
  · obtain ⟨q, hq, rfl⟩ := List.mem_map.mp hp
    exact c.empty q hq
  · obtain ⟨q, hq, rfl⟩ := List.mem_map.mp hp
    exact c.out q hq
  · obtain ⟨q, hq, rfl⟩ := List.mem_map.mp hp
    exact PySem.W.codeHd_of_K X (c.hd q hq)
  · intro H a ns _ _ hcs hS
    have hcs2 : ∀ q ∈ tfs, H (He.cT K q).2 = some (.tbl #[]) := fun q hq => hcs _ (List.mem_map.mpr ⟨q, hq, rfl⟩)
    refine ⟨rfl, [.lsq (ns.map D.int)], [], [], H, _, ⟨Ext.refl _, ⟨fun P hP => ?_, fun p hp => ?_⟩, rfl, fun i d e => by simp at e, fun x hx => (nomatch hx), fun p hp => (nomatch hp), List.nodup_nil⟩, .cons (.lsq hS (DRs.ints ns)) .nil, ⟨ns, rfl, rfl, rfl⟩, fun d r' v Hs' H' ho _ _ rv => ?_, fun C r' _ _ hz => hz.elim⟩
    · have hP : P ∈ ([(He.cT K ("permuted", none)).2, (He.cT K ("undone", none)).2, (He.cT K ("check_places", none)).2, (He.cT K ("places_of", none)).2, (He.cT K ("Method", some "hunters")).2, (He.cT K ("Method", some "path")).2] : List Addr) := hP
      simp only [List.mem_cons, List.not_mem_nil, or_false] at hP
      rcases hP with rfl | rfl | rfl | rfl | rfl | rfl
      · exact ⟨#[], hcs2 ("permuted", none) (by simp [tfs]), True.intro⟩
      · exact ⟨#[], hcs2 ("undone", none) (by simp [tfs]), True.intro⟩
      · exact ⟨#[], hcs2 ("check_places", none) (by simp [tfs]), True.intro⟩
      · exact ⟨#[], hcs2 ("places_of", none) (by simp [tfs]), True.intro⟩
      · exact ⟨#[], hcs2 ("Method", some "hunters") (by simp [tfs]), True.intro⟩
      · exact ⟨#[], hcs2 ("Method", some "path") (by simp [tfs]), True.intro⟩
    · have hp : p ∈ ([((He.cT K ("law", none)).2, ("law.<locals>.<lambda>" : Str))] : List (Addr × Str)) := hp
      simp only [List.mem_cons, List.not_mem_nil, or_false] at hp
      subst hp
      exact LamX.TabS.nil (hcs2 ("law", none) (by simp [tfs]))
    · obtain ⟨rfl, _⟩ := ho
      cases rv
      rfl
  · intro base KB GB hTB
    have hTB2 : ∀ q ∈ tfs, LamX.TabB base mg (He.cT K q).1 (He.cT K q).2 := fun q hq => hTB _ (List.mem_map.mpr ⟨q, hq, rfl⟩)
    have TBlaw := hTB2 ("law", none) (by simp [tfs])
    have TBpermuted := hTB2 ("permuted", none) (by simp [tfs])
    have TBundone := hTB2 ("undone", none) (by simp [tfs])
    have TBcheck_places := hTB2 ("check_places", none) (by simp [tfs])
    have TBplaces_of := hTB2 ("places_of", none) (by simp [tfs])
    have TBMethod_hunters := hTB2 ("Method", some "hunters") (by simp [tfs])
    have TBMethod_path := hTB2 ("Method", some "path") (by simp [tfs])
    have C_rounds : Cal l.prog w K mg base T "rounds" 1 ["bells"] (R_rounds (He.ga K "RowError")) := ⟨⟨_, _, ok_rounds F0 B eR, g_rounds, F0.kp, b0⟩⟩
    have C_check_row : Cal l.prog w K mg base T "check_row" 2 ["row"] (R_check_row (He.ga K "RowError")) := ⟨⟨_, _, ok_check_row F1 B eR C_rounds, g_check_row, F1.kp, b1⟩⟩
    have C_permuted : Cal l.prog w K mg base T "permuted" 3 ["row", "other"] (R_permuted (He.ga K "RowError")) := ⟨⟨_, _, ok_permuted F2 h_permuted B ⟨TBpermuted.code, TBpermuted.bm, TBpermuted.gP⟩ (by show _ ∈ ([(He.cT K ("permuted", none)).2, (He.cT K ("undone", none)).2, (He.cT K ("check_places", none)).2, (He.cT K ("places_of", none)).2, (He.cT K ("Method", some "hunters")).2, (He.cT K ("Method", some "path")).2] : List Addr); simp) eR C_check_row, g_permuted, F2.kp, b2⟩⟩
    have C_undone : Cal l.prog w K mg base T "undone" 3 ["row"] (R_undone (He.ga K "RowError")) := ⟨⟨_, _, ok_undone F3 h_undone B ⟨TBundone.code, TBundone.bm, TBundone.gP⟩ (by show _ ∈ ([(He.cT K ("permuted", none)).2, (He.cT K ("undone", none)).2, (He.cT K ("check_places", none)).2, (He.cT K ("places_of", none)).2, (He.cT K ("Method", some "hunters")).2, (He.cT K ("Method", some "path")).2] : List Addr); simp) C_rounds C_check_row, g_undone, F3.kp, b3⟩⟩
    have C_check_places : Cal l.prog w K mg base T "check_places" 3 ["places", "bells"] (R_check_places (He.ga K "RowError") (He.ga K "PlaceError")) := ⟨⟨_, _, ok_check_places F4 h_check_places B ⟨TBcheck_places.code, TBcheck_places.bm, TBcheck_places.gP⟩ (by show _ ∈ ([(He.cT K ("permuted", none)).2, (He.cT K ("undone", none)).2, (He.cT K ("check_places", none)).2, (He.cT K ("places_of", none)).2, (He.cT K ("Method", some "hunters")).2, (He.cT K ("Method", some "path")).2] : List Addr); simp) eP C_rounds, g_check_places, F4.kp, b4⟩⟩
    have C_changed : Cal l.prog w K mg base T "changed" 4 ["row", "places"] (R_changed (He.ga K "RowError") (He.ga K "PlaceError")) := ⟨⟨_, _, ok_changed F5 B C_check_row C_check_places, g_changed, F5.kp, b5⟩⟩
    have C_places_of : Cal l.prog w K mg base T "places_of" 4 ["text", "bells"] (R_places_of (He.ga K "RowError") (He.ga K "PlaceError")) := ⟨⟨_, _, ok_places_of F6 h_places_of B ⟨TBplaces_of.code, TBplaces_of.bm, TBplaces_of.gP⟩ (by show _ ∈ ([(He.cT K ("permuted", none)).2, (He.cT K ("undone", none)).2, (He.cT K ("check_places", none)).2, (He.cT K ("places_of", none)).2, (He.cT K ("Method", some "hunters")).2, (He.cT K ("Method", some "path")).2] : List Addr); simp) eP wS C_check_places, g_places_of, F6.kp, b6⟩⟩
    have C_plain_changes : CalT l.prog w K mg base T "plain_changes" 5 ["text", "bells"] (R_plain (He.ga K "RowError") (He.ga K "PlaceError")) := ⟨⟨_, _, ok_plain_changes F7 B eP C_check_places C_places_of, g_plain_changes, F7.kp, b7⟩⟩
    have C_changes_of : Cal l.prog w K mg base T "changes_of" 6 ["text", "bells"] (R_changes_of (He.ga K "RowError") (He.ga K "PlaceError")) := ⟨⟨_, _, ok_changes_of F8 B eP wM C_plain_changes, g_changes_of, F8.kp, b8⟩⟩
    have C_Method___init__ : CalI l.prog w K mg base T (He.ga K "Method") "Method" 7 ["self", "name", "bells", "text"] (R_init (He.ga K "RowError") (He.ga K "PlaceError") (He.ga K "Method")) := ⟨⟨_, _, ok_init F9 CMethod C_changes_of, mk_Method, gc_Method, b9⟩⟩
    have C_Method_lead : CalM l.prog w K mg base T (He.ga K "Method") "lead" 5 ["self", "row"] (R_lead (He.ga K "PlaceError") (He.ga K "Method")) := ⟨⟨_, _, ok_lead F10 B CMethod C_changed, He.meth_ok (c0.fact 9 (f := .meth "Method" "lead") rfl), b10⟩⟩
    have C_Method_head : CalM l.prog w K mg base T (He.ga K "Method") "head" 6 ["self"] (R_head (He.ga K "Method")) := ⟨⟨_, _, ok_head F11 B CMethod C_rounds C_Method_lead, He.meth_ok (c0.fact 10 (f := .meth "Method" "head") rfl), b11⟩⟩
    have C_Method_course : CalM l.prog w K mg base T (He.ga K "Method") "course" 6 ["self"] (R_course (He.ga K "Method")) := ⟨⟨_, _, ok_course F12 B CMethod C_rounds C_Method_lead, He.meth_ok (c0.fact 11 (f := .meth "Method" "course") rfl), b12⟩⟩
    have C_Method_leads : CalM l.prog w K mg base T (He.ga K "Method") "leads" 7 ["self"] (R_leads (He.ga K "Method")) := ⟨⟨_, _, ok_leads F13 B CMethod C_Method_course, He.meth_ok (c0.fact 12 (f := .meth "Method" "leads") rfl), b13⟩⟩
    have C_Method_is_true : CalM l.prog w K mg base T (He.ga K "Method") "is_true" 7 ["self"] (R_is_true (He.ga K "Method")) := ⟨⟨_, _, ok_is_true F14 B CMethod C_Method_course, He.meth_ok (c0.fact 13 (f := .meth "Method" "is_true") rfl), b14⟩⟩
    have C_Method_hunters : CalM l.prog w K mg base T (He.ga K "Method") "hunters" 7 ["self"] (R_hunters (He.ga K "Method")) := ⟨⟨_, _, ok_hunters F15 h_Method_hunters B CMethod ⟨TBMethod_hunters.code, TBMethod_hunters.bm, TBMethod_hunters.gP⟩ (by show _ ∈ ([(He.cT K ("permuted", none)).2, (He.cT K ("undone", none)).2, (He.cT K ("check_places", none)).2, (He.cT K ("places_of", none)).2, (He.cT K ("Method", some "hunters")).2, (He.cT K ("Method", some "path")).2] : List Addr); simp) C_rounds C_Method_head, He.meth_ok (c0.fact 14 (f := .meth "Method" "hunters") rfl), b15⟩⟩
    have C_Method_path : CalM l.prog w K mg base T (He.ga K "Method") "path" 6 ["self", "bell"] (R_path (He.ga K "MethodError") (He.ga K "Method")) := ⟨⟨_, _, ok_path F16 h_Method_path B CMethod ⟨TBMethod_path.code, TBMethod_path.bm, TBMethod_path.gP⟩ (by show _ ∈ ([(He.cT K ("permuted", none)).2, (He.cT K ("undone", none)).2, (He.cT K ("check_places", none)).2, (He.cT K ("places_of", none)).2, (He.cT K ("Method", some "hunters")).2, (He.cT K ("Method", some "path")).2] : List Addr); simp) eE C_rounds C_Method_lead, He.meth_ok (c0.fact 15 (f := .meth "Method" "path") rfl), b16⟩⟩
    have C_Method_is_even_sided : CalM l.prog w K mg base T (He.ga K "Method") "is_even_sided" 1 ["self"] (R_even (He.ga K "Method")) := ⟨⟨_, _, ok_even F17 B CMethod, He.meth_ok (c0.fact 16 (f := .meth "Method" "is_even_sided") rfl), b17⟩⟩
    have C_Method_most_blows : CalM l.prog w K mg base T (He.ga K "Method") "most_blows" 7 ["self"] (R_blows (He.ga K "Method")) := ⟨⟨_, _, ok_blows F18 B CMethod C_Method_course, He.meth_ok (c0.fact 17 (f := .meth "Method" "most_blows") rfl), b18⟩⟩
    have C_Method_kind : CalM l.prog w K mg base T (He.ga K "Method") "kind" 8 ["self"] (R_kind (He.ga K "Method")) := ⟨⟨_, _, ok_kind F19 B CMethod C_Method_hunters C_Method_path, He.meth_ok (c0.fact 18 (f := .meth "Method" "kind") rfl), b19⟩⟩
    have C_false_heads : Cal l.prog w K mg base T "false_heads" 6 ["method"] (R_false (He.ga K "MethodError") (He.ga K "Method")) := ⟨⟨_, _, ok_false F20 B CMethod eE C_rounds C_permuted C_undone C_Method_lead, g_false_heads, F20.kp, b20⟩⟩
    have C__law_dice : Cal l.prog w K mg base T "_law_dice" 1 ["cell"] (R_dice) := ⟨⟨_, _, ok_dice F21 B, g__law_dice, F21.kp, b21⟩⟩
    have C__law_roll : Cal l.prog w K mg base T "_law_roll" 1 ["dice", "many"] (R_roll) := ⟨⟨_, _, ok_roll F22 g__law_roll F22.kp b22 B, g__law_roll, F22.kp, b22⟩⟩
    have C__law_rounds : Cal l.prog w K mg base T "_law_rounds" 2 ["script", "most"] (R_rounds2) := ⟨⟨_, _, ok_rounds2 F23 B C__law_dice, g__law_rounds, F23.kp, b23⟩⟩
    have C__law_changed : Cal l.prog w K mg base T "_law_changed" 1 ["row", "places"] (R_lchanged) := ⟨⟨_, _, ok_lchanged F25 B, g__law_changed, F25.kp, b25⟩⟩
    have C__law_changes : Cal l.prog w K mg base T "_law_changes" 1 ["bells"] (R_lchanges) := ⟨⟨_, _, ok_lchanges F26 B, g__law_changes, F26.kp, b26⟩⟩
    have C__law_lead : Cal l.prog w K mg base T "_law_lead" 2 ["row", "changes"] (R_llead) := ⟨⟨_, _, ok_llead F27 B C__law_changed, g__law_lead, F27.kp, b27⟩⟩
    have C__law_course : Cal l.prog w K mg base T "_law_course" 3 ["bells", "changes"] (R_lcourse) := ⟨⟨_, _, ok_lcourse F28 B C__law_lead, g__law_course, F28.kp, b28⟩⟩
    have C__law_kind : Cal l.prog w K mg base T "_law_kind" 3 ["bells", "changes"] (R_lkind) := ⟨⟨_, _, ok_lkind F29 B C__law_lead, g__law_kind, F29.kp, b29⟩⟩
    have C__law_blows : Cal l.prog w K mg base T "_law_blows" 8 ["rows", "bells"] (R_lblows) := ⟨⟨_, _, ok_lblows F30 B, g__law_blows, F30.kp, b30⟩⟩
    have tld := told_of F24 g__law_told b24 eBell.g
    exact ok_law F31 h_law B CMethod TBlaw (by show _ ∈ ([((He.cT K ("law", none)).2, ("law.<locals>.<lambda>" : Str))] : List (Addr × Str)); simp) (fun p hp hq => by
      have hp : p ∈ ([((He.cT K ("law", none)).2, ("law.<locals>.<lambda>" : Str))] : List (Addr × Str)) := hp
      simp only [List.mem_cons, List.not_mem_nil, or_false] at hp
      subst hp
      rfl) xR xP xE tld C_Method___init__ C_Method_lead C_Method_head C_Method_course C_Method_leads C_Method_is_true C_Method_hunters C_Method_path C_Method_is_even_sided C_Method_most_blows C_Method_kind C_false_heads C__law_rounds C__law_roll C__law_changes C__law_lead C__law_course C__law_kind C__law_blows
end Bs
namespace Bs
open PySem PySem.Spec PyProof.Rows
abbrev RR : PySem.W.OpenRow := PySem.W.OpenLaw.row PySem.Challenge.rw_bellstack_k03_methods_and_their_courses
abbrev hk : PySem.W.Hook := He.hookX 6 fas dfs [] tfs exB
def ob (s : PySem.W.SharedT) : He.AlX := He.obsX 6 fas dfs [] tfs exB (HandSHeadRun.getT s)
theorem ob_eq (s : PySem.W.SharedT) : ob s = hk.obs s.abs := He.obsX_eq (HandSHeadRun.getT_eq s)
def looseN : List PySem.Str := (["BellError", "RowError", "PlaceError", "MethodError", "SIGNS_OF_BELLS", "rounds", "check_row", "permuted", "undone", "MOST_CHANGES", "check_places", "changed", "changes_of", "plain_changes", "places_of", "Method", "false_heads", "_law_dice", "_law_roll", "_law_rounds", "_law_told", "_law_changed", "_law_changes", "_law_lead", "_law_course", "_law_kind", "_law_blows"] : List PySem.Str)
theorem run (w : World) : HandSHeadRun.RunEq RR (PySem.W.view RR.prog [32]) hk ob 6000 looseN w := by
  intro os
  kernel_rfl
end Bs
open PySem PySem.W PySem.Calls PyProof.Rows
set_option maxRecDepth 100000 in
set_option maxHeartbeats 0 in
theorem PySem.Challenge.cw_bellstack_k03_methods_and_their_courses_holds : PySem.Challenge.rw_bellstack_k03_methods_and_their_courses.Holds := by
  w_on; o_law
  refine HandSHeadRun.head_any (r := OpenLaw.row PySem.Challenge.rw_bellstack_k03_methods_and_their_courses) (q := view (OpenLaw.row PySem.Challenge.rw_bellstack_k03_methods_and_their_courses).prog [32]) (H := Bs.hk) (ob := Bs.ob) (M := 6000) (loose := Bs.looseN) (d := HandSHeadRun.topDef (OpenLaw.row PySem.Challenge.rw_bellstack_k03_methods_and_their_courses).prog 32) (kwd := []) Bs.ob_eq
    (by kernel_rfl) (fun s => by kernel_rfl) Bs.run (by kernel_rfl) (by kernel_rfl) (by kernel_rfl) (by rfl) (by first | assumption | decide +kernel) (by decide +kernel) ⟨rfl, rfl, rfl, rfl, rfl, by decide +kernel⟩ ?hw ?hc
  case hw => w_witness2
  case hc =>
    refine LamX.walk_ofTsE (l := PySem.Challenge.rw_bellstack_k03_methods_and_their_courses) (n := 63) (k := 11) (x := "script") (CX := fun w => L2.CX PySem.Challenge.rw_bellstack_k03_methods_and_their_courses.prog w) rfl (by decide) (by kernel_rfl) ⟨rfl, by decide, by decide⟩ ?F (fun w H s e s' z => by obtain ⟨_, _, _, _, _, _, _, _, _, _, _, _, z⟩ := z; exact z)
    intro w mg fa h Y G hmg0
    obtain ⟨K, KX, c⟩ := Y
    have hmg : mg ("law" : PySem.Str) = some (.ref fa) := by
      have e : (HandSHeadRun.topDef (OpenLaw.row PySem.Challenge.rw_bellstack_k03_methods_and_their_courses).prog 32).name = ("law" : PySem.Str) := by kernel_rfl
      rw [← e]
      exact hmg0
    exact ⟨K, KX, Bs.facts (l := PySem.Challenge.rw_bellstack_k03_methods_and_their_courses) KX G hmg c⟩
