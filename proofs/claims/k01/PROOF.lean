import PyProof.Rows.All
import Wide.All
import OpenK.AllK
import Wide.FinOn
import PySem.Challenge.RW_bellstack_k01_rows_of_bells
import HandS.ForMost
import HandS.Evl
import HandS.Exc
import HandS.ExcOwn
import HandS.TryOnly
import HandS.WordsExc
import HandS.Lambda
import HandS.AnyAll
import HandS.Conv
import HandS.TupAny
import HandS.Style
import HandS.Deep
import KE.KEqDeep
import HandS.SortInts
import PyProof.TupleOfSeq
import HandS.Zip
import HandS.SetFor
import HandS.Replace
import PyProof.TupleOfGen
import PyProof.ConsumeS
import PyProof.SeqIndex
import PyProof.WalksMore
import PyProof.StrWalks
import HandS.Iter
import HandS.Nested
import HandS.EndTab
import HandS.EndBits
set_option Elab.async false
set_option linter.all false
set_option maxRecDepth 100000
set_option maxHeartbeats 8000000
/-! the data layer: values as data, local lists as resources -/
namespace DL
open PySem PySem.Spec PyProof.Rows L2

/-! ### lambdas that capture nothing -/
structure LInfo where
  q : Str
  params : Arguments
  body : Expr
  scope : Scope
/-- the object at f is such a lambda, its code object at c -/
def LO (f c : Addr) (I : LInfo) : HO := .ext fun h => ∃ pm ctv : Value, h.get? f = some (PySem.W.kla_obj "<lambda>" I.q I.params I.body I.scope [] pm c ctv)
theorem lo_ne {f c : Addr} {I : LInfo} (ps : Array Value) : LO f c I ≠ .tbl ps := fun z => by
  unfold LO at z
  cases z
/-! ### data -/
inductive D where
  | non | bl (b : Bool) | int (i : Int) | str (x : Str)
  | tup (xs : List D) | lst (xs : List D)
  /-- a tuple whose object is known to have no dict -/
  | tux (xs : List D)
  | lam (I : LInfo)
  /-- a list that is only read (the script) -/
  | lsq (xs : List D)
  | ins (C : Addr) (ns : List Str) (ds : List D)
  | dk (ks : List Key) (ds : List D) | dt (ks : List (List Key)) (ds : List D)
  | ref (a : Addr)

mutual
inductive DR (K : PySem.W.Frag) (H : Hp) : V → D → Prop
  | non : DR K H .non .non
  | bl (b : Bool) : DR K H (.bl b) (.bl b)
  | int (i : Int) : DR K H (.int i) (.int i)
  | str (x : Str) : DR K H (.str x) (.str x)
  | tup {a : Addr} {xs : List V} {ds : List D} : SqT K H a xs → DRs K H xs ds → DR K H (.ref a) (.tup ds)
  | lst {a : Addr} {xs : List V} {ds : List D} : H a = some (.lst xs) → DRs K H xs ds → DR K H (.ref a) (.lst ds)
  | ins {a C dx : Addr} {fs : List (Str × V)} {ns : List Str} {ds : List D} : H a = some (.ins C dx fs) → fs.map Prod.fst = ns → DRs K H (fs.map Prod.snd) ds → DR K H (.ref a) (.ins C ns ds)
  | dk {a : Addr} {kvs : List (Key × V)} {ks : List Key} {ds : List D} : H a = some (.dK kvs) → kvs.map Prod.fst = ks → DRs K H (kvs.map Prod.snd) ds → DR K H (.ref a) (.dk ks ds)
  | dt {a : Addr} {kvs : List (List Key × V)} {ks : List (List Key)} {ds : List D} : H a = some (.dT kvs) → kvs.map Prod.fst = ks → DRs K H (kvs.map Prod.snd) ds → DR K H (.ref a) (.dt ks ds)
  | tux {a : Addr} {o : Obj} {xs : List V} {ds : List D} : H a = some (.frz o (.tup xs)) → o.dict = none → DRs K H xs ds → DR K H (.ref a) (.tux ds)
  | lam {f c : Addr} {I : LInfo} : H f = some (LO f c I) → H c = some (LamX.CodeO c I.q) → DR K H (.ref f) (.lam I)
  | lsq {a : Addr} {xs : List V} {ds : List D} : SqL K H a xs → DRs K H xs ds → DR K H (.ref a) (.lsq ds)
  | ref (a : Addr) : DR K H (.ref a) (.ref a)
inductive DRs (K : PySem.W.Frag) (H : Hp) : List V → List D → Prop
  | nil : DRs K H [] []
  | cons {v : V} {vs : List V} {d : D} {ds : List D} : DR K H v d → DRs K H vs ds → DRs K H (v :: vs) (d :: ds)
end

/-! ### tables of code objects; what grows -/
structure Tb where
  gs : List Addr
  ls : List (Addr × Str)
  dj : ∀ P ∈ gs, ∀ p ∈ ls, p.1 ≠ P

structure Ext (T : Tb) (H H' : Hp) : Prop where
  keep : ∀ a o, H a = some o → (∀ ps, o ≠ .tbl ps) → H' a = some o
  tk : ∀ a ps, H a = some (.tbl ps) → ∃ qs, H' a = some (.tbl qs)
  tg : ∀ P ∈ T.gs, GxR.TabG H P → GxR.TabG H' P
  ts : LamX.Tabs T.ls H → LamX.Tabs T.ls H'

section
variable {T : Tb} {K : PySem.W.Frag} {H H1 H2 H' : Hp}
theorem Ext.refl (H : Hp) : Ext T H H := ⟨fun _ _ h _ => h, fun _ ps h => ⟨ps, h⟩, fun _ _ h => h, fun h => h⟩
theorem Ext.trans (a : Ext T H H1) (b : Ext T H1 H2) : Ext T H H2 :=
  ⟨fun c o h n => b.keep c o (a.keep c o h n) n, fun c ps h => (a.tk c ps h).elim fun q e => b.tk c q e, fun P hP h => b.tg P hP (a.tg P hP h), fun h => b.ts (a.ts h)⟩
theorem Ext.of (e : ∀ b o, H b = some o → H' b = some o) : Ext T H H' :=
  ⟨fun b o h _ => e b o h, fun a ps h => ⟨ps, e _ _ h⟩, fun _ _ ⟨ps, h, z⟩ => ⟨ps, e _ _ h, z⟩, fun h => LamX.Tabs.ext h e⟩
theorem Ext.new {p : Addr} {o : HO} (h : H p = none) : Ext T H (upd H p o) := Ext.of fun a u e => by
  rw [upd_ne (ne_of_none e h)]
  exact e
theorem Ext.rd {a : Addr} {u : HO} (e : Ext T H H') (h : Rd H a u) (n : ∀ ps, u ≠ .tbl ps) : Rd H' a u := by
  rcases h with h | ⟨o, h⟩
  · exact Or.inl (e.keep a _ h n)
  · exact Or.inr ⟨o, e.keep a _ h (fun _ z => nomatch z)⟩
theorem Ext.sl {a : Addr} {xs : List V} (e : Ext T H H') (h : SqL K H a xs) : SqL K H' a xs := by
  rcases h with h | h
  · exact Or.inl (e.rd h (fun _ z => nomatch z))
  · exact Or.inr h
theorem Ext.st {a : Addr} {xs : List V} (e : Ext T H H') (h : SqT K H a xs) : SqT K H' a xs := by
  rcases h with h | h
  · exact Or.inl (e.rd h (fun _ z => nomatch z))
  · exact Or.inr h
theorem Ext.any {p : Addr} {o : HO} (e : Ext T H H') (hp : H p = some o) : ∃ u, H' p = some u := by
  cases o with
  | tbl ps => exact (e.tk p ps hp).elim fun q z => ⟨_, z⟩
  | _ => exact ⟨_, e.keep p _ hp fun _ z => nomatch z⟩
theorem Ext.back {p : Addr} (e : Ext T H H') (h : H' p = none) : H p = none := by
  cases q : H p with
  | none => rfl
  | some o =>
    obtain ⟨u, z⟩ := e.any q
    rw [h] at z
    cases z
theorem Ext.tab {P : Addr} (hP : P ∈ T.gs) (h : GxR.Tabbed P H H') (g : GxR.TabG H P) : Ext T H H' := by
  obtain ⟨ps, hps, _⟩ := g
  refine ⟨fun a o e n => ?_, fun a qs e => ?_, fun P' hP' t => ?_, fun t p hp => ?_⟩
  rotate_left
  · by_cases z : a = P
    · obtain ⟨qs, q1, _⟩ := h.1
      exact ⟨qs, by rw [z]; exact q1⟩
    · exact ⟨qs, by rw [h.2 a z]; exact e⟩
  rotate_right
  · have na : a ≠ P := fun z => n ps (by rw [z, hps] at e; exact (Option.some.inj e).symm)
    rw [h.2 a na]
    exact e
  · by_cases z : P' = P
    · rw [z]
      exact h.1
    · obtain ⟨ps', h1, h2⟩ := t
      exact ⟨ps', by rw [h.2 P' z]; exact h1, h2⟩
  · obtain ⟨ps', h1, h2, h3⟩ := t p hp
    refine ⟨ps', by rw [h.2 p.1 (T.dj P hP p hp)]; exact h1, h2, fun pos cv hc => ?_⟩
    obtain ⟨c, e1, e2⟩ := h3 pos cv hc
    refine ⟨c, e1, ?_⟩
    have nc : c ≠ P := fun z => by
      rw [z, hps] at e2
      exact LamX.codeO_ne _ (Option.some.inj e2).symm
    rw [h.2 c nc]
    exact e2

mutual
theorem DR.mono (e : Ext T H H') : ∀ (d : D) {v : V}, DR K H v d → DR K H' v d
  | .non, _, h => by cases h; exact .non
  | .bl b, _, h => by cases h; exact .bl b
  | .int i, _, h => by cases h; exact .int i
  | .str x, _, h => by cases h; exact .str x
  | .tup ds, _, h => by cases h with | tup h1 h2 => exact .tup (e.st h1) (DRs.mono e ds h2)
  | .lst ds, _, h => by cases h with | lst h1 h2 => exact .lst (e.keep _ _ h1 (fun _ z => nomatch z)) (DRs.mono e ds h2)
  | .ins C ns ds, _, h => by cases h with | ins h1 h2 h3 => exact .ins (e.keep _ _ h1 (fun _ z => nomatch z)) h2 (DRs.mono e ds h3)
  | .dk ks ds, _, h => by cases h with | dk h1 h2 h3 => exact .dk (e.keep _ _ h1 (fun _ z => nomatch z)) h2 (DRs.mono e ds h3)
  | .dt ks ds, _, h => by cases h with | dt h1 h2 h3 => exact .dt (e.keep _ _ h1 (fun _ z => nomatch z)) h2 (DRs.mono e ds h3)
  | .tux ds, _, h => by cases h with | tux h1 h2 h3 => exact .tux (e.keep _ _ h1 (fun _ z => nomatch z)) h2 (DRs.mono e ds h3)
  | .lam I, _, h => by cases h with | lam h1 h2 => exact .lam (e.keep _ _ h1 lo_ne) (e.keep _ _ h2 LamX.codeO_ne)
  | .lsq ds, _, h => by cases h with | lsq h1 h2 => exact .lsq (e.sl h1) (DRs.mono e ds h2)
  | .ref a, _, h => by cases h; exact .ref a
theorem DRs.mono (e : Ext T H H') : ∀ (ds : List D) {vs : List V}, DRs K H vs ds → DRs K H' vs ds
  | [], _, h => by cases h; exact .nil
  | d :: ds, _, h => by cases h with | cons h1 h2 => exact .cons (DR.mono e d h1) (DRs.mono e ds h2)
end
end
theorem DR.weakT {K : PySem.W.Frag} {H : Hp} {v : V} {ds : List D} (h : DR K H v (.tux ds)) : DR K H v (.tup ds) := by
  cases h with
  | tux h1 h2 h3 => exact .tup (Or.inl (Or.inr ⟨_, h1⟩)) h3
theorem DRs.length {K : PySem.W.Frag} {H : Hp} : ∀ {vs : List V} {ds : List D}, DRs K H vs ds → vs.length = ds.length
  | _, _, .nil => rfl
  | _, _, .cons _ t => congrArg (· + 1) (DRs.length t)
theorem DRs.get {K : PySem.W.Frag} {H : Hp} : ∀ {vs : List V} {ds : List D} {i : Nat} {d : D}, DRs K H vs ds → ds[i]? = some d → ∃ v, vs[i]? = some v ∧ DR K H v d
  | _, _, _, _, .nil, e => by simp at e
  | _, _, 0, d, .cons r _, e => by simp at e; subst e; exact ⟨_, rfl, r⟩
  | _, _, i + 1, d, .cons _ t, e => by
    obtain ⟨v, h1, h2⟩ := DRs.get (i := i) (d := d) t (by simpa using e)
    exact ⟨v, by simpa using h1, h2⟩
theorem DRs.get' {K : PySem.W.Frag} {H : Hp} : ∀ {vs : List V} {ds : List D} {i : Nat} {v : V}, DRs K H vs ds → vs[i]? = some v → ∃ d, ds[i]? = some d ∧ DR K H v d
  | _, _, _, _, .nil, e => by simp at e
  | _, _, 0, v, .cons r _, e => by simp at e; subst e; exact ⟨_, rfl, r⟩
  | _, _, i + 1, v, .cons _ t, e => by
    obtain ⟨d, h1, h2⟩ := DRs.get' (i := i) (v := v) t (by simpa using e)
    exact ⟨d, by simpa using h1, h2⟩
theorem DRs.append {K : PySem.W.Frag} {H : Hp} : ∀ {vs ws : List V} {ds es : List D}, DRs K H vs ds → DRs K H ws es → DRs K H (vs ++ ws) (ds ++ es)
  | _, _, _, _, .nil, s => s
  | _, _, _, _, .cons r t, s => .cons r (DRs.append t s)
theorem DRs.set {K : PySem.W.Frag} {H : Hp} {v : V} {d : D} (r : DR K H v d) : ∀ {vs : List V} {ds : List D} (i : Nat), DRs K H vs ds → DRs K H (vs.set i v) (ds.set i d)
  | _, _, _, .nil => .nil
  | _, _, 0, .cons _ t => .cons r t
  | _, _, i + 1, .cons q t => .cons q (DRs.set r i t)
theorem DRs.take {K : PySem.W.Frag} {H : Hp} : ∀ {vs : List V} {ds : List D} (n : Nat), DRs K H vs ds → DRs K H (vs.take n) (ds.take n)
  | _, _, 0, _ => .nil
  | _, _, _ + 1, .nil => .nil
  | _, _, n + 1, .cons r t => .cons r (DRs.take n t)
theorem DRs.drop {K : PySem.W.Frag} {H : Hp} : ∀ {vs : List V} {ds : List D} (n : Nat), DRs K H vs ds → DRs K H (vs.drop n) (ds.drop n)
  | _, _, 0, r => r
  | _, _, _ + 1, .nil => .nil
  | _, _, n + 1, .cons _ t => DRs.drop n t
theorem DRs.eraseIdx {K : PySem.W.Frag} {H : Hp} : ∀ {vs : List V} {ds : List D} (n : Nat), DRs K H vs ds → DRs K H (vs.eraseIdx n) (ds.eraseIdx n)
  | _, _, _, .nil => .nil
  | _, _, 0, .cons _ t => t
  | _, _, n + 1, .cons r t => .cons r (DRs.eraseIdx n t)
theorem DRs.reverse {K : PySem.W.Frag} {H : Hp} : ∀ {vs : List V} {ds : List D}, DRs K H vs ds → DRs K H vs.reverse ds.reverse
  | _, _, .nil => .nil
  | _, _, .cons r t => by
    rw [List.reverse_cons, List.reverse_cons]
    exact (DRs.reverse t).append (.cons r .nil)
theorem DRs.ints {K : PySem.W.Frag} {H : Hp} : ∀ (ns : List Int), DRs K H (ns.map V.int) (ns.map D.int)
  | [] => .nil
  | n :: r => .cons (.int n) (DRs.ints r)
theorem DRs.ints_inv {K : PySem.W.Frag} {H : Hp} : ∀ {ns : List Int} {vs : List V}, DRs K H vs (ns.map D.int) → vs = ns.map V.int
  | [], _, h => by cases h; rfl
  | n :: r, _, h => by
    cases h with
    | cons h1 h2 =>
      cases h1
      rw [DRs.ints_inv h2]
      rfl
theorem DRs.strs_inv {K : PySem.W.Frag} {H : Hp} : ∀ {xs : List Str} {vs : List V}, DRs K H vs (xs.map D.str) → vs = xs.map V.str
  | [], _, h => by cases h; rfl
  | n :: r, _, h => by
    cases h with
    | cons h1 h2 =>
      cases h1
      rw [DRs.strs_inv h2]
      rfl
theorem DRs.strs {K : PySem.W.Frag} {H : Hp} : ∀ (ns : List Str), DRs K H (ns.map V.str) (ns.map D.str)
  | [] => .nil
  | n :: r => .cons (.str n) (DRs.strs r)

/-! ### resources -/
/-- no table, no code object -/
def NT : HO → Prop
  | .tbl _ => False
  | .ext _ => False
  | _ => True
theorem NT.tb {o : HO} (n : NT o) : ∀ ps, o ≠ .tbl ps := fun ps z => by subst z; exact n
theorem NT.co {o : HO} (n : NT o) (c : Addr) (q : Str) : o ≠ LamX.CodeO c q := fun z => by subst z; exact n
structure Res where
  fp : List Addr
  ok : PySem.W.Frag → Hp → Hp → Prop
  st : ∀ (T : Tb) (K : PySem.W.Frag) (Hs Hs' H H' : Hp), Ext T Hs Hs' → (∀ p ∈ fp, H' p = H p) → ok K Hs H → ok K Hs' H'
/-- a list of one's own at p -/
def rl (p : Addr) (ds : List D) : Res where
  fp := [p]
  ok := fun K Hs H => ∃ xs, H p = some (.lst xs) ∧ DRs K Hs xs ds
  st := fun T K Hs Hs' H H' e k ⟨xs, h1, h2⟩ => ⟨xs, by rw [k p (by simp)]; exact h1, DRs.mono e ds h2⟩
/-- a dict of one's own at p -/
def rk (p : Addr) (ks : List Key) (ds : List D) : Res where
  fp := [p]
  ok := fun K Hs H => ∃ kvs : List (Key × V), H p = some (.dK kvs) ∧ kvs.map Prod.fst = ks ∧ DRs K Hs (kvs.map Prod.snd) ds
  st := fun T K Hs Hs' H H' e k ⟨xs, h1, h2, h3⟩ => ⟨xs, by rw [k p (by simp)]; exact h1, h2, DRs.mono e ds h3⟩
def rt (p : Addr) (ks : List (List Key)) (ds : List D) : Res where
  fp := [p]
  ok := fun K Hs H => ∃ kvs : List (List Key × V), H p = some (.dT kvs) ∧ kvs.map Prod.fst = ks ∧ DRs K Hs (kvs.map Prod.snd) ds
  st := fun T K Hs Hs' H H' e k ⟨xs, h1, h2, h3⟩ => ⟨xs, by rw [k p (by simp)]; exact h1, h2, DRs.mono e ds h3⟩

abbrev G := List (Option D)
abbrev Rs := List Res
def fps (r : Rs) : List Addr := r.flatMap Res.fp

/-- the tables stand -/
structure Wf (T : Tb) (H : Hp) : Prop where
  g : ∀ P ∈ T.gs, GxR.TabG H P
  l : LamX.Tabs T.ls H
theorem Wf.ext {T : Tb} {H H' : Hp} (w : Wf T H) (e : Ext T H H') : Wf T H' := ⟨fun P h => e.tg P h (w.g P h), e.ts w.l⟩

/-- the state: Hs the part that stands still, H all; g what the slots hold, r what is one's own -/
structure SR (T : Tb) (K : PySem.W.Frag) (Hs H : Hp) (σ : L2.St) (g : G) (r : Rs) : Prop where
  ex : Ext T Hs H
  wf : Wf T Hs
  len : σ.length = g.length
  sl : ∀ (i : Nat) d, g[i]? = some (some d) → ∃ v, σ[i]? = some (some v) ∧ DR K Hs v d
  rs : ∀ x ∈ r, x.ok K Hs H
  fr : ∀ p ∈ fps r, Hs p = none ∧ ∃ o, H p = some o ∧ NT o
  nd : (fps r).Nodup

section
variable {T : Tb} {K : PySem.W.Frag} {Hs H Hs' H' : Hp} {σ : L2.St} {g : G} {r : Rs}
theorem SR.wfH (s : SR T K Hs H σ g r) : Wf T H := s.wf.ext s.ex
/-- H grows, what stands still stays -/
theorem SR.grow (s : SR T K Hs H σ g r) (e : Ext T H H') : SR T K Hs H' σ g r :=
  ⟨s.ex.trans e, s.wf, s.len, s.sl, fun x hx => x.st T K Hs Hs H H' (Ext.refl _) (fun p hp => by
    obtain ⟨o, h1, h2⟩ := (s.fr p (List.mem_flatMap.mpr ⟨x, hx, hp⟩)).2
    rw [e.keep p o h1 h2.tb, h1]) (s.rs x hx), fun p hp => by
    obtain ⟨h0, o, h1, h2⟩ := s.fr p hp
    exact ⟨h0, o, e.keep p o h1 h2.tb, h2⟩, s.nd⟩
/-- a new object that stands still from now on -/
theorem SR.alloc (s : SR T K Hs H σ g r) {p : Addr} {o : HO} (h : H p = none) (n : NT o) : SR T K (upd Hs p o) (upd H p o) σ g r ∧ Ext T Hs (upd Hs p o) := by
  have hs0 : Hs p = none := s.ex.back h
  have e1 : Ext T Hs (upd Hs p o) := Ext.new hs0
  have np : ∀ q ∈ fps r, q ≠ p := fun q hq z => by
    obtain ⟨_, u, h1, _⟩ := s.fr q hq
    rw [z, h] at h1
    cases h1
  refine ⟨⟨?_, s.wf.ext e1, s.len, fun i d e => ?_, fun x hx => ?_, fun q hq => ?_, s.nd⟩, e1⟩
  · refine ⟨fun a u e n => ?_, fun a ps e => ?_, fun P hP t => ?_, fun t => ?_⟩
    · by_cases z : a = p
      · subst z
        rw [upd_same] at e ⊢
        exact e
      · rw [upd_ne z] at e ⊢
        exact s.ex.keep a u e n
    · by_cases z : a = p
      · subst z
        rw [upd_same] at e
        exact (n.tb ps (Option.some.inj e)).elim
      · rw [upd_ne z] at e ⊢
        exact s.ex.tk a ps e
    · exact (Ext.new (T := T) h).tg P hP (s.ex.tg P hP (s.wf.g P hP))
    · exact (Ext.new (T := T) h).ts (s.ex.ts s.wf.l)
  · obtain ⟨v, h1, h2⟩ := s.sl i d e
    exact ⟨v, h1, DR.mono e1 d h2⟩
  · exact x.st T K Hs _ H _ e1 (fun q hq => upd_ne (np q (List.mem_flatMap.mpr ⟨x, hx, hq⟩))) (s.rs x hx)
  · obtain ⟨h0, u, h1, h2⟩ := s.fr q hq
    exact ⟨by rw [upd_ne (np q hq)]; exact h0, u, by rw [upd_ne (np q hq)]; exact h1, h2⟩
/-- what is known of H stands still from now on -/
theorem SR.adopt (s : SR T K Hs H σ g r) {c : Addr} {o : HO} (h : H c = some o) (n : ∀ ps, o ≠ .tbl ps) (nf : c ∉ fps r) : SR T K (upd Hs c o) H σ g r ∧ Ext T Hs (upd Hs c o) := by
  have hs : ∀ u, Hs c = some u → u = o := fun u e => by
    by_cases z : ∃ ps, u = .tbl ps
    · obtain ⟨ps, rfl⟩ := z
      obtain ⟨qs, q⟩ := s.ex.tk c ps e
      rw [h] at q
      exact (n qs (Option.some.inj q)).elim
    · have q := s.ex.keep c u e fun ps e => z ⟨ps, e⟩
      rw [h] at q
      exact (Option.some.inj q).symm
  have e0 : ∀ b u, Hs b = some u → upd Hs c o b = some u := fun b u e => by
    by_cases z : b = c
    · subst z
      rw [hs u e, upd_same]
    · rw [upd_ne z]
      exact e
  have e1 : Ext T Hs (upd Hs c o) := Ext.of e0
  have back : ∀ a u, upd Hs c o a = some u → a ≠ c → Hs a = some u := fun a u e z => by
    rw [upd_ne z] at e
    exact e
  have ntH : ∀ ps, H c ≠ some (.tbl ps) := fun ps e => by
    rw [h] at e
    exact n ps (Option.some.inj e)
  refine ⟨⟨⟨fun a u e m => ?_, fun a ps e => ?_, fun P hP t => s.ex.tg P hP (s.wf.g P hP), fun t => s.ex.ts s.wf.l⟩, s.wf.ext e1, s.len, fun i d e => ?_, fun x hx => ?_, fun q hq => ?_, s.nd⟩, e1⟩
  · by_cases z : a = c
    · subst z
      rw [upd_same] at e
      rw [← e]
      exact h
    · exact s.ex.keep a u (back a u e z) m
  · by_cases z : a = c
    · subst z
      rw [upd_same] at e
      exact (n ps (Option.some.inj e)).elim
    · exact s.ex.tk a ps (back a _ e z)
  · obtain ⟨v, h1, h2⟩ := s.sl i d e
    exact ⟨v, h1, DR.mono e1 d h2⟩
  · exact x.st T K Hs _ H _ e1 (fun q hq => rfl) (s.rs x hx)
  · obtain ⟨h0, u, h1, h2⟩ := s.fr q hq
    have z : q ≠ c := fun z => nf (z ▸ hq)
    exact ⟨by rw [upd_ne z]; exact h0, u, h1, h2⟩
/-- a new resource -/
theorem SR.own (s : SR T K Hs H σ g r) {p : Addr} {o : HO} (h : H p = none) (n : NT o) {x : Res} (hx : x.fp = [p]) (ok : x.ok K Hs (upd H p o)) : SR T K Hs (upd H p o) σ g (x :: r) := by
  have np : ∀ q ∈ fps r, q ≠ p := fun q hq z => by
    obtain ⟨_, u, h1, _⟩ := s.fr q hq
    rw [z, h] at h1
    cases h1
  have e : fps (x :: r) = p :: fps r := by
    unfold fps
    rw [List.flatMap_cons, hx]
    rfl
  have t := s.grow (Ext.new (T := T) h (o := o))
  refine ⟨t.ex, s.wf, s.len, s.sl, fun y hy => ?_, fun q hq => ?_, ?_⟩
  · rcases List.mem_cons.mp hy with z | z
    · rw [z]
      exact ok
    · exact t.rs y z
  · rw [e] at hq
    rcases List.mem_cons.mp hq with z | z
    · rw [z]
      exact ⟨s.ex.back h, o, upd_same, n⟩
    · exact t.fr q z
  · rw [e]
    exact List.nodup_cons.mpr ⟨fun hq => np p hq rfl, s.nd⟩
theorem fps_set {x : Res} {r : Rs} {j : Nat} {y : Res} (h : r[j]? = some x) (e : y.fp = x.fp) : fps (r.set j y) = fps r := by
  induction r generalizing j with
  | nil => simp at h
  | cons a t ih =>
    cases j with
    | zero =>
      simp at h
      subst h
      show fps (y :: t) = fps (a :: t)
      unfold fps
      rw [List.flatMap_cons, List.flatMap_cons, e]
    | succ j =>
      simp at h
      have q := ih h
      unfold fps at q ⊢
      rw [List.set_cons_succ, List.flatMap_cons, List.flatMap_cons, q]
theorem mem_fps {x : Res} {r : Rs} {j : Nat} (h : r[j]? = some x) {p : Addr} (hp : p ∈ x.fp) : p ∈ fps r :=
  List.mem_flatMap.mpr ⟨x, List.mem_of_getElem? h, hp⟩
theorem fps_other {x y : Res} {r : Rs} {i j : Nat} (n : (fps r).Nodup) (hi : r[i]? = some x) (hj : r[j]? = some y) (d : i ≠ j) {p : Addr} (hp : p ∈ x.fp) : p ∉ y.fp := by
  induction r generalizing i j with
  | nil => simp at hi
  | cons a t ih =>
    have n' : (a.fp ++ fps t).Nodup := by
      unfold fps at n ⊢
      rw [List.flatMap_cons] at n
      exact n
    have nn := List.nodup_append.mp n'
    cases i with
    | zero =>
      cases j with
      | zero => exact (d rfl).elim
      | succ j =>
        simp at hi hj
        subst hi
        exact fun hq => nn.2.2 p hp p (mem_fps hj hq) rfl
    | succ i =>
      cases j with
      | zero =>
        simp at hi hj
        subst hj
        exact fun hq => nn.2.2 p hq p (mem_fps hi hp) rfl
      | succ j =>
        simp at hi hj
        exact ih nn.2.1 hi hj (fun z => d (by rw [z]))
/-- a resource changes at its own place -/
theorem SR.mut (s : SR T K Hs H σ g r) {j : Nat} {x y : Res} {p : Addr} {o : HO} (hj : r[j]? = some x) (hx : x.fp = [p]) (hy : y.fp = [p]) (n : NT o) (ok : y.ok K Hs (upd H p o)) : SR T K Hs (upd H p o) σ g (r.set j y) := by
  have hpr : p ∈ fps r := mem_fps hj (by rw [hx]; simp)
  obtain ⟨h0, u, h1, h2⟩ := s.fr p hpr
  have ef : fps (r.set j y) = fps r := fps_set hj (by rw [hx, hy])
  have nP : ∀ P qs, H P = some (.tbl qs) → P ≠ p := fun P qs e z => by
    rw [z, h1] at e
    exact h2.tb qs (Option.some.inj e)
  refine ⟨?_, s.wf, s.len, s.sl, fun z hz => ?_, fun q hq => ?_, by rw [ef]; exact s.nd⟩
  · refine ⟨fun a v e m => ?_, fun a ps e => ?_, fun P hP t => ?_, fun t => ?_⟩
    · have na : a ≠ p := fun z => by
        rw [z, h0] at e
        cases e
      rw [upd_ne na]
      exact s.ex.keep a v e m
    · obtain ⟨qs, q⟩ := s.ex.tk a ps e
      exact ⟨qs, by rw [upd_ne (nP a qs q)]; exact q⟩
    · obtain ⟨qs, q, z⟩ := s.ex.tg P hP t
      exact ⟨qs, by rw [upd_ne (nP P qs q)]; exact q, z⟩
    · intro pq hpq
      obtain ⟨qs, q, z1, z2⟩ := s.ex.ts s.wf.l pq hpq
      refine ⟨qs, by rw [upd_ne (nP _ qs q)]; exact q, z1, fun pos cv hc => ?_⟩
      obtain ⟨qs0, w0, w1, w2⟩ := s.wf.l pq hpq
      obtain ⟨c, e1, e2⟩ := z2 pos cv hc
      have nc : c ≠ p := fun z => by
        rw [z, h1] at e2
        exact h2.co _ _ (Option.some.inj e2)
      exact ⟨c, e1, by rw [upd_ne nc]; exact e2⟩
  · obtain ⟨i, hi⟩ := List.getElem?_of_mem hz
    by_cases hij : i = j
    · subst hij
      have hl : i < r.length := (List.getElem?_eq_some_iff.mp hj).1
      rw [List.getElem?_set_self hl] at hi
      cases hi
      exact ok
    · rw [List.getElem?_set_ne (Ne.symm hij)] at hi
      refine z.st T K Hs Hs H _ (Ext.refl _) (fun q hq => upd_ne ?_) (s.rs z (List.mem_of_getElem? hi))
      intro e
      subst e
      exact fps_other s.nd hi hj hij hq (by rw [hx]; simp)
  · rw [ef] at hq
    by_cases e : q = p
    · subst e
      exact ⟨h0, o, upd_same, n⟩
    · obtain ⟨z0, v, z1, z2⟩ := s.fr q hq
      exact ⟨z0, v, by rw [upd_ne e]; exact z1, z2⟩
theorem fps_erase : ∀ {r : Rs} {j : Nat}, (fps (r.eraseIdx j)).Sublist (fps r)
  | [], _ => List.Sublist.refl _
  | a :: t, 0 => by
    show (fps t).Sublist (fps (a :: t))
    unfold fps
    rw [List.flatMap_cons]
    exact List.sublist_append_right _ _
  | a :: t, j + 1 => by
    show (fps (a :: t.eraseIdx j)).Sublist (fps (a :: t))
    have q := fps_erase (r := t) (j := j)
    unfold fps at q ⊢
    rw [List.flatMap_cons, List.flatMap_cons]
    exact List.Sublist.append (List.Sublist.refl _) q
theorem mem_erase {r : Rs} {j : Nat} {x : Res} (h : x ∈ r.eraseIdx j) : ∃ i, i ≠ j ∧ r[i]? = some x := by
  obtain ⟨i, hi⟩ := List.getElem?_of_mem h
  rw [List.getElem?_eraseIdx] at hi
  split at hi
  · exact ⟨i, by omega, hi⟩
  · exact ⟨i + 1, by omega, hi⟩
/-- a resource is given up -/
theorem SR.drop (s : SR T K Hs H σ g r) (j : Nat) : SR T K Hs H σ g (r.eraseIdx j) :=
  ⟨s.ex, s.wf, s.len, s.sl, fun x hx => s.rs x (List.mem_of_mem_eraseIdx hx), fun p hp => s.fr p (fps_erase.subset hp), s.nd.sublist fps_erase⟩
theorem SR.drops (s : SR T K Hs H σ g r) : SR T K Hs H σ g [] :=
  ⟨s.ex, s.wf, s.len, s.sl, fun x hx => (nomatch hx), fun p hp => absurd (show p ∈ ([] : List Addr) from hp) (by simp), List.nodup_nil⟩
/-- a resource of one object stands still from now on -/
theorem SR.freeze (s : SR T K Hs H σ g r) {j : Nat} {x : Res} {p : Addr} {o : HO} (hj : r[j]? = some x) (hx : x.fp = [p]) (ho : H p = some o) : SR T K (upd Hs p o) H σ g (r.eraseIdx j) ∧ Ext T Hs (upd Hs p o) := by
  have hpr : p ∈ fps r := mem_fps hj (by rw [hx]; simp)
  obtain ⟨h0, u, h1, h2⟩ := s.fr p hpr
  have e1 : Ext T Hs (upd Hs p o) := Ext.new h0
  have d := s.drop j
  have np : ∀ q ∈ fps (r.eraseIdx j), q ≠ p := fun q hq z => by
    obtain ⟨y, hy, hqy⟩ := List.mem_flatMap.mp hq
    obtain ⟨i, hi, hyi⟩ := mem_erase hy
    exact fps_other s.nd hyi hj hi hqy (by rw [hx, z]; simp)
  refine ⟨⟨?_, s.wf.ext e1, s.len, fun i d e => ?_, fun y hy => ?_, fun q hq => ?_, d.nd⟩, e1⟩
  · refine ⟨fun a v e m => ?_, fun a ps e => ?_, fun P hP t => s.ex.tg P hP (s.wf.g P hP), fun t => s.ex.ts s.wf.l⟩
    · by_cases z : a = p
      · subst z
        rw [upd_same] at e
        rw [ho]
        exact e
      · rw [upd_ne z] at e
        exact s.ex.keep a v e m
    · by_cases z : a = p
      · subst z
        rw [upd_same] at e
        exact ⟨ps, by rw [ho]; exact e⟩
      · rw [upd_ne z] at e
        exact s.ex.tk a ps e
  · obtain ⟨v, h1, h2⟩ := s.sl i d e
    exact ⟨v, h1, DR.mono e1 d h2⟩
  · exact y.st T K Hs _ H _ e1 (fun _ _ => rfl) (d.rs y hy)
  · obtain ⟨z0, v, z1, z2⟩ := d.fr q hq
    exact ⟨by rw [upd_ne (np q hq)]; exact z0, v, z1, z2⟩
/-- a slot is stored -/
theorem SR.set (s : SR T K Hs H σ g r) {v : V} {d : D} (h : DR K Hs v d) (i : Nat) : SR T K Hs H (σ.set i (some v)) (g.set i (some d)) r := by
  refine ⟨s.ex, s.wf, by rw [List.length_set, List.length_set]; exact s.len, fun j e hj => ?_, s.rs, s.fr, s.nd⟩
  by_cases hij : j = i
  · subst hij
    have hl : j < g.length := by
      have q := (List.getElem?_eq_some_iff.mp hj).1
      rw [List.length_set] at q
      exact q
    rw [List.getElem?_set_self hl] at hj
    cases hj
    exact ⟨v, List.getElem?_set_self (by rw [s.len]; exact hl), h⟩
  · rw [List.getElem?_set_ne (Ne.symm hij)] at hj
    rw [List.getElem?_set_ne (Ne.symm hij)]
    exact s.sl j e hj
/-- what is known of the slots is forgotten in part -/
def Wk : G → G → Prop
  | [], [] => True
  | _ :: a, none :: b => Wk a b
  | some x :: a, some y :: b => x = y ∧ Wk a b
  | _, _ => False
theorem Wk.len : ∀ {a b : G}, Wk a b → a.length = b.length
  | [], [], _ => rfl
  | _ :: a, none :: b, h => congrArg (· + 1) (Wk.len (a := a) (b := b) (by cases a <;> exact h))
  | some x :: a, some y :: b, h => congrArg (· + 1) (Wk.len (a := a) (b := b) h.2)
  | none :: _, some _ :: _, h => h.elim
  | [], _ :: _, h => h.elim
  | none :: _, [], h => h.elim
  | some _ :: _, [], h => h.elim
theorem Wk.get : ∀ {a b : G} {i : Nat} {d : D}, Wk a b → b[i]? = some (some d) → a[i]? = some (some d)
  | [], [], _, _, _, e => by simp at e
  | x :: a, none :: b, 0, d, h, e => by simp at e
  | x :: a, none :: b, i + 1, d, h, e => by
    have h' : Wk a b := by cases a <;> exact h
    simpa using Wk.get h' (by simpa using e)
  | some x :: a, some y :: b, 0, d, h, e => by
    simp at e
    rw [← e, ← h.1]
    rfl
  | some x :: a, some y :: b, i + 1, d, h, e => by simpa using Wk.get h.2 (by simpa using e)
  | none :: _, some _ :: _, _, _, h, _ => h.elim
  | [], _ :: _, _, _, h, _ => h.elim
  | none :: _, [], _, _, h, _ => h.elim
  | some _ :: _, [], _, _, h, _ => h.elim
theorem SR.weak {g' : G} (s : SR T K Hs H σ g r) (w : Wk g g') : SR T K Hs H σ g' r :=
  ⟨s.ex, s.wf, s.len.trans w.len, fun i d e => s.sl i d (w.get e), s.rs, s.fr, s.nd⟩
end
end DL
namespace DL
open PySem PySem.Spec PyProof.Rows L2

section
variable (T : Tb) (K : PySem.W.Frag)
/-- an expression gives the data d -/
def Ev (te : TE) (g : G) (r : Rs) (d : D) (r' : Rs) : Prop := ∀ (rf : Rs) (Hs H : Hp) (σ : L2.St), SR T K Hs H σ g (r ++ rf) → ∀ Q : VK,
  (∀ v Hs' H', Ext T Hs Hs' → SR T K Hs' H' σ g (r' ++ rf) → DR K Hs' v d → Q v H') → te σ H Q
/-- .. a new list -/
def EvN (te : TE) (g : G) (r : Rs) (ds : List D) (r' : Rs) : Prop := ∀ (rf : Rs) (Hs H : Hp) (σ : L2.St), SR T K Hs H σ g (r ++ rf) → ∀ Q : VK,
  (∀ p Hs' H', Ext T Hs Hs' → SR T K Hs' H' σ g (rl p ds :: (r' ++ rf)) → Q (.ref p) H') → te σ H Q
/-- a test -/
def EvT (tt : TT) (g : G) (r : Rs) (b : Bool) (r' : Rs) : Prop := ∀ (rf : Rs) (Hs H : Hp) (σ : L2.St), SR T K Hs H σ g (r ++ rf) → ∀ Q : Bool → Hp → Prop,
  (∀ Hs' H', Ext T Hs Hs' → SR T K Hs' H' σ g (r' ++ rf) → Q b H') → tt σ H Q
/-- arguments -/
def EvA (ta : TA) (g : G) (r : Rs) (ds : List D) (r' : Rs) : Prop := ∀ (rf : Rs) (Hs H : Hp) (σ : L2.St), SR T K Hs H σ g (r ++ rf) → ∀ Q : List V → Hp → Prop,
  (∀ vs Hs' H', Ext T Hs Hs' → SR T K Hs' H' σ g (r' ++ rf) → DRs K Hs' vs ds → Q vs H') → ta σ H Q
/-- a part of a slice -/
def EvO (to : TO) (g : G) (r : Rs) (o : Option Int) (r' : Rs) : Prop := ∀ (rf : Rs) (Hs H : Hp) (σ : L2.St), SR T K Hs H σ g (r ++ rf) → ∀ Q : Option Int → Hp → Prop,
  (∀ Hs' H', Ext T Hs Hs' → SR T K Hs' H' σ g (r' ++ rf) → Q o H') → to σ H Q
/-- an operation on data -/
def OpD (f : R2) (x y : D) (g : G) (r : Rs) (d : D) (r' : Rs) : Prop := ∀ (rf : Rs) (Hs H : Hp) (σ : L2.St) (u v : V), SR T K Hs H σ g (r ++ rf) → DR K Hs u x → DR K Hs v y → ∀ Q : VK,
  (∀ v Hs' H', Ext T Hs Hs' → SR T K Hs' H' σ g (r' ++ rf) → DR K Hs' v d → Q v H') → f u v H Q
/-- a call of a built-in on data -/
def CaD (f : List V → Hp → VK → Prop) (xs : List D) (g : G) (r : Rs) (d : D) (r' : Rs) : Prop := ∀ (rf : Rs) (Hs H : Hp) (σ : L2.St) (us : List V), SR T K Hs H σ g (r ++ rf) → DRs K Hs us xs → ∀ Q : VK,
  (∀ v Hs' H', Ext T Hs Hs' → SR T K Hs' H' σ g (r' ++ rf) → DR K Hs' v d → Q v H') → f us H Q
/-- an expression raises an error of the class at C -/
def EvX (E : XK) (te : TE) (g : G) (r : Rs) (C : Addr) (r' : Rs) : Prop := ∀ (rf : Rs) (Hs H : Hp) (σ : L2.St), SR T K Hs H σ g (r ++ rf) → ∀ Q : VK,
  (∀ Hs' H', Ext T Hs Hs' → SR T K Hs' H' σ g (r' ++ rf) → E (.ref C) none H') → te σ H Q
end

section
variable {T : Tb} {K : PySem.W.Frag} {g g' : G} {r r' r1 r2 r3 : Rs} {ta tb tc te : TE} {t u : TT} {x y z d : D} {ds es xs : List D} {tas : TA} {f : R2}

/-! ### from one to another -/
theorem Ev.of_eq {d' : D} (h : Ev T K te g r d r') (e : d = d') : Ev T K te g r d' r' := e ▸ h
theorem EvN.ev (h : EvN T K te g r ds r') : Ev T K te g r (.lst ds) r' := fun rf Hs H σ s Q q => h rf Hs H σ s _ fun p Hs1 H1 e s1 => by
  obtain ⟨xs, h1, h2⟩ := s1.rs (rl p ds) (List.mem_cons_self)
  obtain ⟨s2, e2⟩ := s1.freeze (j := 0) (x := rl p ds) rfl rfl h1
  exact q _ _ _ (e.trans e2) s2 (.lst upd_same (DRs.mono e2 ds h2))
/-- what is to be read as a list, as a tuple, as one of both -/
def Vl (x : D) (r : Rs) (ds : List D) : Prop := x = .lst ds ∨ ∃ (p : Addr) (j : Nat), x = .ref p ∧ r[j]? = some (rl p ds)
def Vs (x : D) (r : Rs) (ds : List D) : Prop := x = .tup ds ∨ Vl x r ds
theorem vl_f : Vl (.lst ds) r ds := Or.inl rfl
theorem vl_o {p : Addr} (j : Nat) (h : r[j]? = some (rl p ds)) : Vl (.ref p) r ds := Or.inr ⟨p, j, rfl, h⟩
theorem vs_t : Vs (.tup ds) r ds := Or.inl rfl
theorem vs_f : Vs (.lst ds) r ds := Or.inr vl_f
theorem vs_o {p : Addr} (j : Nat) (h : r[j]? = some (rl p ds)) : Vs (.ref p) r ds := Or.inr (vl_o j h)
theorem Vl.at {rf : Rs} {Hs H : Hp} {σ : L2.St} {v : V} (h : Vl x r ds) (s : SR T K Hs H σ g (r ++ rf)) (rv : DR K Hs v x) : ∃ a xs, v = .ref a ∧ H a = some (.lst xs) ∧ DRs K Hs xs ds := by
  rcases h with e | ⟨p, j, e, hj⟩
  · subst e
    cases rv with
    | lst h1 h2 => exact ⟨_, _, rfl, s.ex.keep _ _ h1 (fun _ z => nomatch z), h2⟩
  · subst e
    cases rv
    obtain ⟨xs, h1, h2⟩ := s.rs _ (List.mem_append_left _ (List.mem_of_getElem? hj))
    exact ⟨p, xs, rfl, h1, h2⟩
theorem DR.tupI {Hs : Hp} {v : V} (rv : DR K Hs v (.tup ds)) : ∃ a xs, v = .ref a ∧ SqT K Hs a xs ∧ DRs K Hs xs ds := by
  cases rv with
  | tup h1 h2 => exact ⟨_, _, rfl, h1, h2⟩
theorem Vs.at {rf : Rs} {Hs H : Hp} {σ : L2.St} {v : V} (h : Vs x r ds) (s : SR T K Hs H σ g (r ++ rf)) (rv : DR K Hs v x) : ∃ a xs, v = .ref a ∧ (SqL K H a xs ∨ SqT K H a xs) ∧ DRs K Hs xs ds := by
  rcases h with e | h
  · subst e
    obtain ⟨a, xs, e, h1, h2⟩ := rv.tupI
    exact ⟨a, xs, e, Or.inr (s.ex.st h1), h2⟩
  · obtain ⟨a, xs, e, h1, h2⟩ := h.at s rv
    exact ⟨a, xs, e, Or.inl (Evl.sq_of h1), h2⟩

/-! ### names, constants -/
theorem ev_var {i : Nat} (h : g[i]? = some (some d)) : Ev T K (tVar i) g r d r := fun rf Hs H σ s Q q => by
  obtain ⟨v, h1, h2⟩ := s.sl i d h
  exact ⟨v, h1, q v Hs H (Ext.refl _) s h2⟩
theorem ev_int {i : Int} : Ev T K (tC (.int i)) g r (.int i) r := fun rf Hs H σ s Q q => q _ Hs H (Ext.refl _) s (.int i)
theorem ev_bl {b : Bool} : Ev T K (tC (.bl b)) g r (.bl b) r := fun rf Hs H σ s Q q => q _ Hs H (Ext.refl _) s (.bl b)
theorem ev_str {i : Str} : Ev T K (tC (.str i)) g r (.str i) r := fun rf Hs H σ s Q q => q _ Hs H (Ext.refl _) s (.str i)
theorem ev_non : Ev T K (tC .non) g r .non r := fun rf Hs H σ s Q q => q _ Hs H (Ext.refl _) s .non
theorem ev_ref {a : Addr} : Ev T K (tC (.ref a)) g r (.ref a) r := fun rf Hs H σ s Q q => q _ Hs H (Ext.refl _) s (.ref a)

/-! ### arguments, displays -/
theorem ea_nil : EvA T K tNil g r [] r := fun rf Hs H σ s Q q => q [] Hs H (Ext.refl _) s .nil
theorem ea_cons (h1 : Ev T K ta g r x r1) (h2 : EvA T K tas g r1 xs r2) : EvA T K (tCons ta tas) g r (x :: xs) r2 := fun rf Hs H σ s Q q =>
  h1 rf Hs H σ s _ fun v Hs1 H1 e1 s1 rv => h2 rf Hs1 H1 σ s1 _ fun vs Hs2 H2 e2 s2 rvs => q _ _ _ (e1.trans e2) s2 (.cons (DR.mono e2 x rv) rvs)
theorem ev_tup (h : EvA T K tas g r ds r') (hl : ds.length ≤ 100000) : Ev T K (tTup tas) g r (.tup ds) r' := fun rf Hs H σ s Q q =>
  h rf Hs H σ s _ fun vs Hs1 H1 e1 s1 rvs => ⟨by rw [rvs.length]; exact Evl.sz_of hl, fun p hp => by
    obtain ⟨s2, e2⟩ := s1.alloc (o := .tup vs) hp True.intro
    exact q _ _ _ (e1.trans e2) s2 (.tup (Evl.st_of upd_same) (DRs.mono e2 ds rvs))⟩
theorem en_lst (h : EvA T K tas g r ds r') (hl : ds.length ≤ 100000) : EvN T K (tLst tas) g r ds r' := fun rf Hs H σ s Q q =>
  h rf Hs H σ s _ fun vs Hs1 H1 e1 s1 rvs => ⟨by rw [rvs.length]; exact Evl.sz_of hl, fun p hp =>
    q p Hs1 _ e1 (s1.own (o := .lst vs) hp True.intro (x := rl p ds) rfl ⟨vs, upd_same, rvs⟩)⟩

/-! ### operations -/
theorem ev_op (h1 : Ev T K ta g r x r1) (h2 : Ev T K tb g r1 y r2) (h3 : OpD T K f x y g r2 d r3) : Ev T K (tOp f ta tb) g r d r3 := fun rf Hs H σ s Q q =>
  h1 rf Hs H σ s _ fun u Hs1 H1 e1 s1 ru => h2 rf Hs1 H1 σ s1 _ fun v Hs2 H2 e2 s2 rv => h3 rf Hs2 H2 σ u v s2 (DR.mono e2 x ru) rv Q fun w Hs3 H3 e3 s3 rw' => q w Hs3 H3 ((e1.trans e2).trans e3) s3 rw'
theorem od_I0 {h : Int → Int → V} {h' : Int → Int → D} {i j : Int} (hr : ∀ (Hs : Hp) i j, DR K Hs (h i j) (h' i j)) : OpD T K (rI0 h) (.int i) (.int j) g r (h' i j) r := fun rf Hs H σ u v s ru rv Q q => by
  cases ru
  cases rv
  exact ⟨i, j, rfl, rfl, q _ _ _ (Ext.refl _) s (hr Hs i j)⟩
theorem od_I0i {h : Int → Int → Int} {i j : Int} : OpD T K (rI0 fun i j => .int (h i j)) (.int i) (.int j) g r (.int (h i j)) r := od_I0 (h' := fun i j => .int (h i j)) fun _ i j => .int _
theorem od_I0b {h : Int → Int → Bool} {i j : Int} : OpD T K (rI0 fun i j => .bl (h i j)) (.int i) (.int j) g r (.bl (h i j)) r := od_I0 (h' := fun i j => .bl (h i j)) fun _ i j => .bl _
theorem od_I {C : Int → Int → Prop} {h : Int → Int → Int} {i j : Int} (hc : C i j) : OpD T K (rI C fun i j => .int (h i j)) (.int i) (.int j) g r (.int (h i j)) r := fun rf Hs H σ u v s ru rv Q q => by
  cases ru
  cases rv
  exact ⟨i, j, rfl, rfl, hc, q _ _ _ (Ext.refl _) s (.int _)⟩
theorem ev_neg {i : Int} (h : Ev T K ta g r (.int i) r1) : Ev T K (tUn (rU fun i => .int (-i)) ta) g r (.int (-i)) r1 := fun rf Hs H σ s Q q =>
  h rf Hs H σ s _ fun u Hs1 H1 e1 s1 ru => by
    cases ru
    exact ⟨i, rfl, q _ _ _ e1 s1 (.int _)⟩
/-- scalars compared -/
def sc : D → Option V
  | .non => some .non
  | .bl b => some (.bl b)
  | .int i => some (.int i)
  | .str x => some (.str x)
  | _ => none
theorem DR.sc {Hs : Hp} {u : V} {v : V} (h : DR K Hs u x) (e : sc x = some v) : u = v := by
  cases h <;> simp [DL.sc] at e <;> exact e
theorem od_eq {u v : V} (hx : sc x = some u) (hy : sc y = some v) (hs : scal u v = true) : OpD T K rEq x y g r (.bl (decide (u = v))) r := fun rf Hs H σ u' v' s ru rv Q q => by
  rw [ru.sc hx, rv.sc hy]
  exact ⟨hs, q _ _ _ (Ext.refl _) s (.bl _)⟩
theorem od_ne {u v : V} (hx : sc x = some u) (hy : sc y = some v) (hs : scal u v = true) : OpD T K rNe x y g r (.bl (!decide (u = v))) r := fun rf Hs H σ u' v' s ru rv Q q => by
  rw [ru.sc hx, rv.sc hy]
  exact ⟨hs, q _ _ _ (Ext.refl _) s (.bl _)⟩
theorem od_eqI {i j : Int} : OpD T K rEq (.int i) (.int j) g r (.bl (decide (i = j))) r := fun rf Hs H σ u v s ru rv Q q => by
  cases ru
  cases rv
  exact ⟨rfl, q _ _ _ (Ext.refl _) s (by
    have e : decide (V.int i = V.int j) = decide (i = j) := by simp
    rw [e]
    exact .bl _)⟩
theorem od_neI {i j : Int} : OpD T K rNe (.int i) (.int j) g r (.bl (decide (i ≠ j))) r := fun rf Hs H σ u v s ru rv Q q => by
  cases ru
  cases rv
  exact ⟨rfl, q _ _ _ (Ext.refl _) s (by
    have e : (!decide (V.int i = V.int j)) = decide (i ≠ j) := by simp
    rw [e]
    exact .bl _)⟩
theorem od_eqS {i j : Str} : OpD T K rEq (.str i) (.str j) g r (.bl (decide (i = j))) r := fun rf Hs H σ u v s ru rv Q q => by
  cases ru
  cases rv
  exact ⟨rfl, q _ _ _ (Ext.refl _) s (by
    have e : decide (V.str i = V.str j) = decide (i = j) := by simp
    rw [e]
    exact .bl _)⟩
theorem od_neS {i j : Str} : OpD T K rNe (.str i) (.str j) g r (.bl (decide (i ≠ j))) r := fun rf Hs H σ u v s ru rv Q q => by
  cases ru
  cases rv
  exact ⟨rfl, q _ _ _ (Ext.refl _) s (by
    have e : (!decide (V.str i = V.str j)) = decide (i ≠ j) := by simp
    rw [e]
    exact .bl _)⟩
theorem od_eqB {i j : Bool} : OpD T K rEq (.bl i) (.bl j) g r (.bl (i == j)) r := fun rf Hs H σ u v s ru rv Q q => by
  cases ru
  cases rv
  exact ⟨rfl, q _ _ _ (Ext.refl _) s (by
    have e : decide (V.bl i = V.bl j) = (i == j) := by cases i <;> cases j <;> rfl
    rw [e]
    exact .bl _)⟩
theorem od_neB {i j : Bool} : OpD T K rNe (.bl i) (.bl j) g r (.bl (i != j)) r := fun rf Hs H σ u v s ru rv Q q => by
  cases ru
  cases rv
  exact ⟨rfl, q _ _ _ (Ext.refl _) s (by
    have e : (!decide (V.bl i = V.bl j)) = (i != j) := by cases i <;> cases j <;> rfl
    rw [e]
    exact .bl _)⟩

/-! ### tests -/
theorem et_test {b : Bool} (h : Ev T K ta g r (.bl b) r1) : EvT T K (tTest ta) g r b r1 := fun rf Hs H σ s Q q => h rf Hs H σ s _ fun v Hs1 H1 e s1 rv => by
  cases rv
  exact ⟨b, rfl, q _ _ e s1⟩
theorem et_B {b : Bool} (h : Ev T K ta g r (.bl b) r1) : EvT T K (tB ta) g r b r1 := fun rf Hs H σ s Q q => h rf Hs H σ s _ fun v Hs1 H1 e s1 rv => by
  cases rv
  exact ⟨b, rfl, q _ _ e s1⟩
theorem et_not {b : Bool} (h : EvT T K t g r b r1) : EvT T K (tNot t) g r (!b) r1 := fun rf Hs H σ s Q q => h rf Hs H σ s _ fun Hs1 H1 e s1 => q _ _ e s1
theorem et_of_eq {b b' : Bool} (h : EvT T K t g r b r1) (e : b = b') : EvT T K t g r b' r1 := e ▸ h
theorem et_and {a b : Bool} (h1 : EvT T K t g r a r1) (h2 : a = true → EvT T K u g r1 b r1) : EvT T K (tAnd t u) g r (a && b) r1 := fun rf Hs H σ s Q q => h1 rf Hs H σ s _ fun Hs1 H1 e s1 => by
  cases a with
  | true => exact h2 rfl rf Hs1 H1 σ s1 Q fun Hs2 H2 e2 s2 => q _ _ (e.trans e2) s2
  | false => exact q _ _ e s1
theorem et_or {a b : Bool} (h1 : EvT T K t g r a r1) (h2 : a = false → EvT T K u g r1 b r1) : EvT T K (tOr t u) g r (a || b) r1 := fun rf Hs H σ s Q q => h1 rf Hs H σ s _ fun Hs1 H1 e s1 => by
  cases a with
  | true => exact q _ _ e s1
  | false => exact h2 rfl rf Hs1 H1 σ s1 Q fun Hs2 H2 e2 s2 => q _ _ (e.trans e2) s2
theorem et_or1 (h1 : EvT T K t g r true r1) : EvT T K (tOr t u) g r true r1 := fun rf Hs H σ s Q q => h1 rf Hs H σ s _ fun Hs1 H1 e s1 => q _ _ e s1
theorem et_or2 {b : Bool} (h1 : EvT T K t g r false r1) (h2 : EvT T K u g r1 b r2) : EvT T K (tOr t u) g r b r2 := fun rf Hs H σ s Q q => h1 rf Hs H σ s _ fun Hs1 H1 e s1 => h2 rf Hs1 H1 σ s1 Q fun Hs2 H2 e2 s2 => q _ _ (e.trans e2) s2
theorem et_and0 (h1 : EvT T K t g r false r1) : EvT T K (tAnd t u) g r false r1 := fun rf Hs H σ s Q q => h1 rf Hs H σ s _ fun Hs1 H1 e s1 => q _ _ e s1
theorem et_and2 {b : Bool} (h1 : EvT T K t g r true r1) (h2 : EvT T K u g r1 b r2) : EvT T K (tAnd t u) g r b r2 := fun rf Hs H σ s Q q => h1 rf Hs H σ s _ fun Hs1 H1 e s1 => h2 rf Hs1 H1 σ s1 Q fun Hs2 H2 e2 s2 => q _ _ (e.trans e2) s2
theorem ev_and {a b : Bool} (h1 : Ev T K ta g r (.bl a) r1) (h2 : a = true → Ev T K tb g r1 (.bl b) r1) : Ev T K (tAndV ta tb) g r (.bl (a && b)) r1 := fun rf Hs H σ s Q q => h1 rf Hs H σ s _ fun v Hs1 H1 e s1 rv => by
  cases rv
  refine ⟨a, rfl, ?_⟩
  cases a with
  | true => exact h2 rfl rf Hs1 H1 σ s1 Q fun v Hs2 H2 e2 s2 => q _ _ _ (e.trans e2) s2
  | false => exact q _ _ _ e s1 (.bl _)
theorem ev_or {a b : Bool} (h1 : Ev T K ta g r (.bl a) r1) (h2 : a = false → Ev T K tb g r1 (.bl b) r1) : Ev T K (tOrV ta tb) g r (.bl (a || b)) r1 := fun rf Hs H σ s Q q => h1 rf Hs H σ s _ fun v Hs1 H1 e s1 rv => by
  cases rv
  refine ⟨a, rfl, ?_⟩
  cases a with
  | true => exact q _ _ _ e s1 (.bl _)
  | false => exact h2 rfl rf Hs1 H1 σ s1 Q fun v Hs2 H2 e2 s2 => q _ _ _ (e.trans e2) s2
theorem ev_not {a : Bool} (h1 : Ev T K ta g r (.bl a) r1) : Ev T K (tNotV ta) g r (.bl (!a)) r1 := fun rf Hs H σ s Q q => h1 rf Hs H σ s _ fun v Hs1 H1 e s1 rv => by
  cases rv
  exact ⟨a, rfl, q _ _ _ e s1 (.bl _)⟩
theorem ev_if {b : Bool} (h : EvT T K t g r b r1) (h1 : b = true → Ev T K ta g r1 d r2) (h2 : b = false → Ev T K tb g r1 d r2) : Ev T K (tIf t ta tb) g r d r2 := fun rf Hs H σ s Q q => h rf Hs H σ s _ fun Hs1 H1 e s1 => by
  cases b with
  | true => exact h1 rfl rf Hs1 H1 σ s1 Q fun v Hs2 H2 e2 s2 => q _ _ _ (e.trans e2) s2
  | false => exact h2 rfl rf Hs1 H1 σ s1 Q fun v Hs2 H2 e2 s2 => q _ _ _ (e.trans e2) s2
/-- a chain of two comparisons -/
theorem ev_chain {f' : R2} {b b' : Bool} (h1 : Ev T K ta g r x r1) (h2 : Ev T K tb g r1 y r1) (h3 : OpD T K f x y g r1 (.bl b) r1) (h4 : b = true → Ev T K tc g r1 z r1) (h5 : b = true → OpD T K f' y z g r1 (.bl b') r1) : Ev T K (tChain f f' ta tb tc) g r (.bl (b && b')) r1 := fun rf Hs H σ s Q q =>
  h1 rf Hs H σ s _ fun u Hs1 H1 e1 s1 ru => h2 rf Hs1 H1 σ s1 _ fun v Hs2 H2 e2 s2 rv => h3 rf Hs2 H2 σ u v s2 (DR.mono e2 x ru) rv _ fun w Hs3 H3 e3 s3 rw' => by
    cases rw'
    refine ⟨b, rfl, ?_⟩
    cases b with
    | true => exact h4 rfl rf Hs3 H3 σ s3 _ fun z' Hs4 H4 e4 s4 rz => h5 rfl rf Hs4 H4 σ v z' s4 (DR.mono (e3.trans e4) y rv) rz Q fun w' Hs5 H5 e5 s5 r5 => q _ _ _ ((((e1.trans e2).trans e3).trans e4).trans e5) s5 r5
    | false => exact q _ _ _ ((e1.trans e2).trans e3) s3 (.bl _)

/-! ### items, lengths -/
theorem ixN_nat {n j : Nat} (hj : j < n) : ixN n (j : Int) = some j := Evl.ixN_nat hj
theorem atI_of {α : Type} {xs : List α} {i : Int} {v : α} (h0 : 0 ≤ i) (h : xs[i.toNat]? = some v) : atI xs i = some v := by
  obtain ⟨n, rfl⟩ : ∃ n : Nat, i = (n : Int) := ⟨i.toNat, by omega⟩
  exact atI_nat (by simpa using h)
theorem DRs.at {Hs : Hp} {vs : List V} {i : Int} (h : DRs K Hs vs ds) (e : atI ds i = some d) : ∃ v, atI vs i = some v ∧ DR K Hs v d := by
  unfold atI at e ⊢
  rw [h.length]
  cases q : ixN ds.length i with
  | none => rw [q] at e; cases e
  | some j =>
    rw [q] at e
    exact h.get e
theorem od_ixT {i : Int} (h : atI ds i = some d) : OpD T K (rIxT K) (.tup ds) (.int i) g r d r := fun rf Hs H σ u v s ru rv Q q => by
  cases rv
  obtain ⟨a, xs, rfl, h1, h2⟩ := ru.tupI
  obtain ⟨w, q1, q2⟩ := h2.at h
  exact ⟨a, xs, i, w, rfl, rfl, s.ex.st h1, q1, q _ _ _ (Ext.refl _) s q2⟩
theorem od_ixL {i : Int} (h0 : Vl x r ds) (h : atI ds i = some d) : OpD T K (rIxL K) x (.int i) g r d r := fun rf Hs H σ u v s ru rv Q q => by
  cases rv
  obtain ⟨a, xs, rfl, h1, h2⟩ := h0.at s ru
  obtain ⟨w, q1, q2⟩ := h2.at h
  exact ⟨a, xs, i, w, rfl, rfl, Evl.sq_of h1, q1, q _ _ _ (Ext.refl _) s q2⟩
theorem od_ixS {zs : Str} {i : Int} {c : Nat} (hl : zs.length ≤ 100000) (h : atI zs.cps.toList i = some c) : OpD T K rIxS (.str zs) (.int i) g r (.str ⟨#[c]⟩) r := fun rf Hs H σ u v s ru rv Q q => by
  cases ru
  cases rv
  exact ⟨zs, i, c, rfl, rfl, Evl.sz_of hl, h, q _ _ _ (Ext.refl _) s (.str _)⟩

/-! ### calls of built-ins -/
abbrev _root_.L2.rLenX (K : PySem.W.Frag) : List V → Hp → VK → Prop := fun xs H Q => ∃ x n, xs = [x] ∧ LenV K x H n ∧ Q (.int n) H
abbrev _root_.L2.rListOfX (K : PySem.W.Frag) : List V → Hp → VK → Prop := fun xs H Q => ∃ p ys, xs = [.ref p] ∧ (SqL K H p ys ∨ SqT K H p ys) ∧ ∀ l, H l = none → Q (.ref l) (upd H l (.lst ys))

theorem ev_cb {h : List V → Hp → VK → Prop} (h1 : EvA T K tas g r ds r1) (h2 : CaD T K h ds g r1 d r2) : Ev T K (tCB h tas) g r d r2 := fun rf Hs H σ s Q q =>
  h1 rf Hs H σ s _ fun vs Hs1 H1 e1 s1 rvs => h2 rf Hs1 H1 σ vs s1 rvs Q fun v Hs2 H2 e2 s2 rv => q _ _ _ (e1.trans e2) s2 rv
theorem DRs.one {Hs : Hp} {vs : List V} (h : DRs K Hs vs [x]) : ∃ v, vs = [v] ∧ DR K Hs v x := by
  cases h with
  | cons h1 h2 =>
    cases h2
    exact ⟨_, rfl, h1⟩
theorem DRs.two {Hs : Hp} {vs : List V} (h : DRs K Hs vs [x, y]) : ∃ v w, vs = [v, w] ∧ DR K Hs v x ∧ DR K Hs w y := by
  cases h with
  | cons h1 h2 =>
    obtain ⟨w, rfl, h3⟩ := h2.one
    exact ⟨_, _, rfl, h1, h3⟩
theorem ca_len (h : Vs x r ds) : CaD T K (fun xs H Q => ∃ x n, xs = [x] ∧ LenV K x H n ∧ Q (.int n) H) [x] g r (.int (ds.length : Int)) r := fun rf Hs H σ us s ru Q q => by
  obtain ⟨v, rfl, rv⟩ := ru.one
  obtain ⟨a, xs, rfl, h1, h2⟩ := h.at s rv
  refine ⟨_, ds.length, rfl, ?_, q _ _ _ (Ext.refl _) s (.int _)⟩
  rcases h1 with h1 | h1
  · exact Or.inl ⟨xs, h1, h2.length.symm⟩
  · exact Or.inr ⟨xs, h1, h2.length.symm⟩
theorem ca_lenS {zs : Str} (h : zs.length ≤ 100000) : CaD T K (fun xs H Q => ∃ x n, xs = [x] ∧ LenV K x H n ∧ Q (.int n) H) [.str zs] g r (.int (zs.length : Int)) r := fun rf Hs H σ us s ru Q q => by
  obtain ⟨v, rfl, rv⟩ := ru.one
  cases rv
  exact ⟨_, zs.length, rfl, ⟨Evl.sz_of h, rfl⟩, q _ _ _ (Ext.refl _) s (.int _)⟩
end
end DL
namespace DL
open PySem PySem.Spec PyProof.Rows L2

/-! ### statements -/
/-- how a block may end: by what the slots hold and what is one's own -/
structure Out where
  nx : G → Rs → Prop := fun _ _ => False
  rt : D → Rs → Prop := fun _ _ => False
  bk : G → Rs → Prop := fun _ _ => False
  ct : G → Rs → Prop := fun _ _ => False
  ex : Addr → Rs → Prop := fun _ _ => False

section
variable (T : Tb) (K : PySem.W.Frag) (E : XK)
structure Good (rf : Rs) (Hs : Hp) (O : Out) (En : Ends) : Prop where
  nx : ∀ g r Hs' H' σ, O.nx g r → Ext T Hs Hs' → SR T K Hs' H' σ g (r ++ rf) → En.nx σ H'
  rt : ∀ d g r v Hs' H' σ, O.rt d r → Ext T Hs Hs' → SR T K Hs' H' σ g (r ++ rf) → DR K Hs' v d → En.rt v H'
  bk : ∀ g r Hs' H' σ, O.bk g r → Ext T Hs Hs' → SR T K Hs' H' σ g (r ++ rf) → En.bk σ H'
  ct : ∀ g r Hs' H' σ, O.ct g r → Ext T Hs Hs' → SR T K Hs' H' σ g (r ++ rf) → En.ct σ H'
  ex : ∀ C g r Hs' H' σ, O.ex C r → Ext T Hs Hs' → SR T K Hs' H' σ g (r ++ rf) → E (.ref C) none H'
def StD (ts : TS) (g : G) (r : Rs) (O : Out) : Prop := ∀ (rf : Rs) (Hs H : Hp) (σ : L2.St), SR T K Hs H σ g (r ++ rf) → ∀ En : Ends, Good T K E rf Hs O En → ts En σ H
/-- a target is assigned -/
def EvG (tg : TG) (is : List Nat) (d : D) (g g' : G) : Prop := ∀ (Hs H : Hp) (σ : L2.St) (r : Rs) (v : V), SR T K Hs H σ g r → DR K Hs v d → ∀ Q : L2.St → Hp → Prop,
  (∀ σ', SR T K Hs H σ' g' r → (∀ w : List Nat, (∀ i ∈ is, i ∈ w) → wipe σ' w = wipe σ w) → Q σ' H) → tg v σ H Q
/-- what a loop walks: the items one by one -/
def Steps (Hs : Hp) (J : It) (ds : List D) : Prop := ∀ (i : Nat) (Hs' H' : Hp), Ext T Hs Hs' → Ext T Hs' H' →
  (ds.length ≤ i → J.stop i H') ∧ (∀ d, ds[i]? = some d → J.go i H' ∧ ∀ v H2, J.yld i H' v H2 → ∃ Hs2, Ext T Hs' Hs2 ∧ DR K Hs2 v d ∧ ∀ σ g r, SR T K Hs' H' σ g r → SR T K Hs2 H2 σ g r)
def EvI (ti : TI) (g : G) (r : Rs) (ds : List D) (r' : Rs) : Prop := ∀ (rf : Rs) (Hs H : Hp) (σ : L2.St), SR T K Hs H σ g (r ++ rf) → ∀ R : It → Hp → Prop,
  (∀ J Hs' H', Ext T Hs Hs' → SR T K Hs' H' σ g (r' ++ rf) → Steps T K Hs' J ds → R J H') → ti σ H R
end

section
variable {T : Tb} {K : PySem.W.Frag} {E : XK} {g g' : G} {r r' r1 r2 r3 : Rs} {ta tb tc te : TE} {t : TT} {x y z d : D} {ds es xs : List D} {tas : TA} {f : R2} {O O' : Out} {s1 s2 ts tu : TS} {i j k : Nat} {tg : TG}

theorem Good.ext {rf : Rs} {Hs Hs' : Hp} {En : Ends} (h : Good T K E rf Hs O En) (e : Ext T Hs Hs') : Good T K E rf Hs' O En :=
  ⟨fun g r Hs1 H1 σ o e1 => h.nx g r Hs1 H1 σ o (e.trans e1), fun d g r v Hs1 H1 σ o e1 => h.rt d g r v Hs1 H1 σ o (e.trans e1), fun g r Hs1 H1 σ o e1 => h.bk g r Hs1 H1 σ o (e.trans e1),
   fun g r Hs1 H1 σ o e1 => h.ct g r Hs1 H1 σ o (e.trans e1), fun C g r Hs1 H1 σ o e1 => h.ex C g r Hs1 H1 σ o (e.trans e1)⟩
theorem st_mono (h : StD T K E ts g r O) (n : ∀ g r, O.nx g r → O'.nx g r) (t : ∀ d r, O.rt d r → O'.rt d r) (b : ∀ g r, O.bk g r → O'.bk g r) (c : ∀ g r, O.ct g r → O'.ct g r) (x : ∀ C r, O.ex C r → O'.ex C r) : StD T K E ts g r O' :=
  fun rf Hs H σ s En G => h rf Hs H σ s En ⟨fun g r Hs1 H1 σ o => G.nx g r Hs1 H1 σ (n _ _ o), fun d g r v Hs1 H1 σ o => G.rt d g r v Hs1 H1 σ (t _ _ o), fun g r Hs1 H1 σ o => G.bk g r Hs1 H1 σ (b _ _ o),
    fun g r Hs1 H1 σ o => G.ct g r Hs1 H1 σ (c _ _ o), fun C g r Hs1 H1 σ o => G.ex C g r Hs1 H1 σ (x _ _ o)⟩
/-- before it: forget, give up, let stand still -/
theorem st_weak (w : Wk g g') (h : StD T K E ts g' r O) : StD T K E ts g r O := fun rf Hs H σ s => h rf Hs H σ (s.weak w)
theorem eraseIdx_app {α : Type} {l m : List α} {j : Nat} (h : j < l.length) : (l ++ m).eraseIdx j = l.eraseIdx j ++ m := List.eraseIdx_append_of_lt_length h m
theorem lt_of_some {α : Type} {l : List α} {j : Nat} {a : α} (h : l[j]? = some a) : j < l.length := (List.getElem?_eq_some_iff.mp h).1
theorem get_app {α : Type} {l m : List α} {j : Nat} {a : α} (h : l[j]? = some a) : (l ++ m)[j]? = some a := by
  rw [List.getElem?_append_left (lt_of_some h)]
  exact h
theorem set_app {α : Type} {l m : List α} {j : Nat} {a b : α} (h : l[j]? = some a) : (l ++ m).set j b = l.set j b ++ m := by
  rw [List.set_append_left _ _ (lt_of_some h)]
theorem st_drop {x : Res} (j : Nat) (hj : r[j]? = some x) (h : StD T K E ts g (r.eraseIdx j) O) : StD T K E ts g r O := fun rf Hs H σ s => h rf Hs H σ (by rw [← eraseIdx_app (lt_of_some hj)]; exact s.drop j)
theorem SR.freezeAt {Hs H : Hp} {σ : L2.St} (s : SR T K Hs H σ g r) {i j : Nat} {p : Addr} (hj : r[j]? = some (rl p ds)) (hi : g[i]? = some (some (.ref p))) :
    ∃ Hs', Ext T Hs Hs' ∧ SR T K Hs' H σ (g.set i (some (.lst ds))) (r.eraseIdx j) := by
  obtain ⟨ys, h1, h2⟩ := s.rs _ (List.mem_of_getElem? hj)
  obtain ⟨s2, e2⟩ := s.freeze hj rfl h1
  refine ⟨_, e2, s2.ex, s2.wf, by rw [List.length_set]; exact s2.len, fun k d hk => ?_, s2.rs, s2.fr, s2.nd⟩
  by_cases hik : k = i
  · subst hik
    have hl : k < g.length := (List.getElem?_eq_some_iff.mp hi).1
    rw [List.getElem?_set_self hl] at hk
    cases hk
    obtain ⟨v, a1, a2⟩ := s.sl k _ hi
    cases a2
    exact ⟨_, a1, .lst upd_same (DRs.mono e2 ds h2)⟩
  · rw [List.getElem?_set_ne (Ne.symm hik)] at hk
    exact s2.sl k d hk
theorem st_freeze (i j : Nat) {p : Addr} (hj : r[j]? = some (rl p ds)) (hi : g[i]? = some (some (.ref p))) (h : StD T K E ts (g.set i (some (.lst ds))) (r.eraseIdx j) O) : StD T K E ts g r O := fun rf Hs H σ s En G => by
  obtain ⟨Hs', e, s'⟩ := s.freezeAt (get_app hj) hi
  exact h rf Hs' H σ (by rw [← eraseIdx_app (lt_of_some hj)]; exact s') En (G.ext e)

theorem st_next (h : O.nx g r) : StD T K E tNext g r O := fun rf Hs H σ s En G => G.nx g r Hs H σ h (Ext.refl _) s
theorem st_brk (h : O.bk g r) : StD T K E tBreak g r O := fun rf Hs H σ s En G => G.bk g r Hs H σ h (Ext.refl _) s
theorem st_cont (h : O.ct g r) : StD T K E tCont g r O := fun rf Hs H σ s En G => G.ct g r Hs H σ h (Ext.refl _) s
theorem st_seq {M : G → Rs → Prop} (h : StD T K E s1 g r { O with nx := M }) (h2 : ∀ g r, M g r → StD T K E s2 g r O) : StD T K E (tSeq s1 s2) g r O := fun rf Hs H σ s En G =>
  h rf Hs H σ s { En with nx := s2 En } ⟨fun g r Hs1 H1 σ1 o e s' => h2 g r o rf Hs1 H1 σ1 s' En (G.ext e), G.rt, G.bk, G.ct, G.ex⟩
theorem st_set (h : Ev T K te g r d r1) (h2 : O.nx (g.set i (some d)) r1) : StD T K E (tAsg te (gName i)) g r O := fun rf Hs H σ s En G =>
  h rf Hs H σ s _ fun v Hs1 H1 e s' rv => G.nx _ _ _ _ _ h2 e (s'.set rv i)
theorem sq_set (h : Ev T K te g r d r1) (h2 : StD T K E s2 (g.set i (some d)) r1 O) : StD T K E (tSeq (tAsg te (gName i)) s2) g r O := fun rf Hs H σ s En G =>
  h rf Hs H σ s _ fun v Hs1 H1 e s' rv => h2 rf Hs1 H1 _ (s'.set rv i) En (G.ext e)
theorem st_new (h : EvN T K te g r ds r1) (h2 : ∀ p, O.nx (g.set i (some (.ref p))) (rl p ds :: r1)) : StD T K E (tAsg te (gName i)) g r O := fun rf Hs H σ s En G =>
  h rf Hs H σ s _ fun p Hs1 H1 e s' => G.nx _ _ _ _ _ (h2 p) e (s'.set (.ref p) i)
theorem sq_new (h : EvN T K te g r ds r1) (h2 : ∀ p, StD T K E s2 (g.set i (some (.ref p))) (rl p ds :: r1) O) : StD T K E (tSeq (tAsg te (gName i)) s2) g r O := fun rf Hs H σ s En G =>
  h rf Hs H σ s _ fun p Hs1 H1 e s' => h2 p rf Hs1 H1 _ (s'.set (.ref p) i) En (G.ext e)
/-- a, b = e1, e2 -/
theorem st_par (h : EvA T K tas g r [x, y] r1) (h2 : O.nx ((g.set i (some x)).set j (some y)) r1) : StD T K E (tPar i j tas) g r O := fun rf Hs H σ s En G =>
  h rf Hs H σ s _ fun vs Hs1 H1 e s' rvs => by
    obtain ⟨v, w, rfl, rv, rw'⟩ := rvs.two
    exact ⟨v, w, rfl, G.nx _ _ _ _ _ h2 e ((s'.set rv i).set rw' j)⟩
theorem sq_par (h : EvA T K tas g r [x, y] r1) (h2 : StD T K E s2 ((g.set i (some x)).set j (some y)) r1 O) : StD T K E (tSeq (tPar i j tas) s2) g r O := fun rf Hs H σ s En G =>
  h rf Hs H σ s _ fun vs Hs1 H1 e s' rvs => by
    obtain ⟨v, w, rfl, rv, rw'⟩ := rvs.two
    exact ⟨v, w, rfl, h2 rf Hs1 H1 _ ((s'.set rv i).set rw' j) En (G.ext e)⟩
theorem st_ret (h : Ev T K te g r d r1) (h2 : O.rt d r1) : StD T K E (tRet te) g r O := fun rf Hs H σ s En G =>
  h rf Hs H σ s _ fun v Hs1 H1 e s' rv => G.rt _ _ _ _ _ _ _ h2 e s' rv
/-- return of a list of one's own -/
theorem st_retO {p : Addr} (j : Nat) (h : Ev T K te g r (.ref p) r1) (hj : r1[j]? = some (rl p ds)) (h2 : O.rt (.lst ds) (r1.eraseIdx j)) : StD T K E (tRet te) g r O := fun rf Hs H σ s En G =>
  h rf Hs H σ s _ fun v Hs1 H1 e s' rv => by
    cases rv
    obtain ⟨ys, a1, a2⟩ := s'.rs _ (List.mem_append_left _ (List.mem_of_getElem? hj))
    obtain ⟨s2, e2⟩ := s'.freeze (get_app hj) rfl a1
    exact G.rt _ _ _ _ _ _ _ h2 (e.trans e2) (by rw [← eraseIdx_app (lt_of_some hj)]; exact s2) (.lst upd_same (DRs.mono e2 ds a2))
theorem st_retN (h : O.rt .non r) : StD T K E tRetN g r O := fun rf Hs H σ s En G => G.rt _ _ _ _ _ _ _ h (Ext.refl _) s .non
theorem st_dropE (h : Ev T K te g r d r1) (h2 : O.nx g r1) : StD T K E (tDrop te) g r O := fun rf Hs H σ s En G =>
  h rf Hs H σ s _ fun v Hs1 H1 e s' rv => G.nx _ _ _ _ _ h2 e s'
theorem sq_drop (h : Ev T K te g r d r1) (h2 : StD T K E s2 g r1 O) : StD T K E (tSeq (tDrop te) s2) g r O := fun rf Hs H σ s En G =>
  h rf Hs H σ s _ fun v Hs1 H1 e s' rv => h2 rf Hs1 H1 _ s' En (G.ext e)
theorem st_aug {h' : Int → Int → Int} {m n : Int} (hx : g[i]? = some (some (.int m))) (h : Ev T K te g r (.int n) r1) (h2 : O.nx (g.set i (some (.int (h' m n)))) r1) : StD T K E (tAug i te (ipI h')) g r O := fun rf Hs H σ s En G => by
  obtain ⟨v, a1, a2⟩ := s.sl i _ hx
  cases a2
  exact ⟨_, a1, h rf Hs H σ s _ fun v Hs1 H1 e s' rv => by
    cases rv
    exact ⟨m, n, rfl, rfl, G.nx _ _ _ _ _ h2 e (s'.set (.int _) i)⟩⟩
theorem sq_aug {h' : Int → Int → Int} {m n : Int} (hx : g[i]? = some (some (.int m))) (h : Ev T K te g r (.int n) r1) (h2 : StD T K E s2 (g.set i (some (.int (h' m n)))) r1 O) : StD T K E (tSeq (tAug i te (ipI h')) s2) g r O := fun rf Hs H σ s En G => by
  obtain ⟨v, a1, a2⟩ := s.sl i _ hx
  cases a2
  exact ⟨_, a1, h rf Hs H σ s _ fun v Hs1 H1 e s' rv => by
    cases rv
    exact ⟨m, n, rfl, rfl, h2 rf Hs1 H1 _ (s'.set (.int _) i) En (G.ext e)⟩⟩
theorem st_if {b : Bool} (h : EvT T K t g r b r1) (h1 : b = true → StD T K E s1 g r1 O) (h2 : b = false → StD T K E s2 g r1 O) : StD T K E (tIfS t s1 s2) g r O := fun rf Hs H σ s En G =>
  h rf Hs H σ s _ fun Hs1 H1 e s' => by
    cases b with
    | true => exact h1 rfl rf Hs1 H1 _ s' En (G.ext e)
    | false => exact h2 rfl rf Hs1 H1 _ s' En (G.ext e)
theorem sq_if {b : Bool} (h : EvT T K t g r b r1) (h1 : b = true → StD T K E (tSeq s1 ts) g r1 O) (h2 : b = false → StD T K E (tSeq s2 ts) g r1 O) : StD T K E (tSeq (tIfS t s1 s2) ts) g r O := fun rf Hs H σ s En G =>
  h rf Hs H σ s _ fun Hs1 H1 e s' => by
    cases b with
    | true => exact h1 rfl rf Hs1 H1 _ s' En (G.ext e)
    | false => exact h2 rfl rf Hs1 H1 _ s' En (G.ext e)
theorem sq_next (h : StD T K E ts g r O) : StD T K E (tSeq tNext ts) g r O := h
theorem sq_seq (h : StD T K E (tSeq s1 (tSeq s2 ts)) g r O) : StD T K E (tSeq (tSeq s1 s2) ts) g r O := h
/-- what ends does not ask for what follows -/
theorem sq_ret (h : StD T K E (tRet te) g r { O with nx := fun _ _ => False }) : StD T K E (tSeq (tRet te) ts) g r O := fun rf Hs H σ s En G => h rf Hs H σ s { En with nx := ts En } ⟨fun _ _ _ _ _ o => o.elim, G.rt, G.bk, G.ct, G.ex⟩
theorem sq_retN (h : O.rt .non r) : StD T K E (tSeq tRetN ts) g r O := fun rf Hs H σ s En G => G.rt _ _ _ _ _ _ _ h (Ext.refl _) s .non
theorem sq_brk (h : O.bk g r) : StD T K E (tSeq tBreak ts) g r O := fun rf Hs H σ s En G => G.bk g r Hs H σ h (Ext.refl _) s
theorem sq_cont (h : O.ct g r) : StD T K E (tSeq tCont ts) g r O := fun rf Hs H σ s En G => G.ct g r Hs H σ h (Ext.refl _) s
/-- raise C('..') of a class of one's own -/
theorem st_raise {C : Addr} (h : O.ex C r) : StD T K E (fun _ _ H => E (.ref C) none H) g r O := fun rf Hs H σ s En G => G.ex C _ _ _ _ _ h (Ext.refl _) s
theorem sq_raise {C : Addr} (h : O.ex C r) : StD T K E (tSeq (fun _ _ H => E (.ref C) none H) ts) g r O := fun rf Hs H σ s En G => G.ex C _ _ _ _ _ h (Ext.refl _) s
/-- an expression of the statement raises -/
theorem st_exE {C : Addr} (h : EvX T K E te g r C r1) (h2 : O.ex C r1) : StD T K E (tDrop te) g r O := fun rf Hs H σ s En G => h rf Hs H σ s _ fun Hs1 H1 e s' => G.ex C _ _ _ _ _ h2 e s'
theorem sq_exE {C : Addr} (h : EvX T K E te g r C r1) (h2 : O.ex C r1) : StD T K E (tSeq (tDrop te) ts) g r O := fun rf Hs H σ s En G => h rf Hs H σ s _ fun Hs1 H1 e s' => G.ex C _ _ _ _ _ h2 e s'
theorem st_exR {C : Addr} (h : EvX T K E te g r C r1) (h2 : O.ex C r1) : StD T K E (tRet te) g r O := fun rf Hs H σ s En G => h rf Hs H σ s _ fun Hs1 H1 e s' => G.ex C _ _ _ _ _ h2 e s'
theorem st_exS {C : Addr} (h : EvX T K E te g r C r1) (h2 : O.ex C r1) : StD T K E (tAsg te tg) g r O := fun rf Hs H σ s En G => h rf Hs H σ s _ fun Hs1 H1 e s' => G.ex C _ _ _ _ _ h2 e s'
theorem sq_exS {C : Addr} (h : EvX T K E te g r C r1) (h2 : O.ex C r1) : StD T K E (tSeq (tAsg te tg) ts) g r O := fun rf Hs H σ s En G => h rf Hs H σ s _ fun Hs1 H1 e s' => G.ex C _ _ _ _ _ h2 e s'

/-! ### targets -/
theorem wipe_set {i : Nat} {x : Option V} : ∀ {w : List Nat} {σ : L2.St}, i ∈ w → wipe (σ.set i x) w = wipe σ w
  | [], _, h => (nomatch h)
  | v :: w, σ, h => by
    show (wipe (σ.set i x) w).set v none = (wipe σ w).set v none
    by_cases hi : i ∈ w
    · rw [wipe_set hi]
    · have e : i = v := by
        rcases List.mem_cons.mp h with z | z
        · exact z
        · exact (hi z).elim
      subst e
      have c : ∀ (u : List Nat) (τ : L2.St), i ∉ u → wipe (τ.set i x) u = (wipe τ u).set i x := by
        intro u
        induction u with
        | nil => intro τ _; rfl
        | cons a u ih =>
          intro τ hn
          simp only [List.mem_cons, not_or] at hn
          show (wipe (τ.set i x) u).set a none = ((wipe τ u).set a none).set i x
          rw [ih τ hn.2, List.set_comm _ _ hn.1]
      rw [c w σ hi, List.set_set]
theorem eg_name : EvG T K (gName i) [i] d g (g.set i (some d)) := fun Hs H σ r v s rv Q q => q _ (s.set rv i) fun w hw => wipe_set (hw i (by simp))
def EvGs (T : Tb) (K : PySem.W.Frag) (tg : TGs) (is : List Nat) (ds : List D) (g g' : G) : Prop := ∀ (Hs H : Hp) (σ : L2.St) (r : Rs) (vs : List V), SR T K Hs H σ g r → DRs K Hs vs ds → ∀ Q : L2.St → Hp → Prop,
  (∀ σ', SR T K Hs H σ' g' r → (∀ w : List Nat, (∀ i ∈ is, i ∈ w) → wipe σ' w = wipe σ w) → Q σ' H) → tg vs σ H Q
theorem egs_nil : EvGs T K gNil [] [] g g := fun Hs H σ r vs s rvs Q q => by
  cases rvs
  exact ⟨rfl, q σ s fun _ _ => rfl⟩
theorem egs_cons {tgs : TGs} {g2 : G} {is js : List Nat} (h1 : EvG T K tg is d g g') (h2 : EvGs T K tgs js ds g' g2) : EvGs T K (gCons tg tgs) (is ++ js) (d :: ds) g g2 := fun Hs H σ r vs s rvs Q q => by
  cases rvs with
  | cons a b => exact ⟨_, _, rfl, h1 Hs H σ r _ s a _ fun σ' s' w1 => h2 Hs H σ' r _ s' b Q fun σ2 s2 w2 => q σ2 s2 fun w hw => (w2 w fun i hi => hw i (List.mem_append_right _ hi)).trans (w1 w fun i hi => hw i (List.mem_append_left _ hi))⟩
theorem eg_tup {tgs : TGs} {n : Nat} {is : List Nat} (h : EvGs T K tgs is ds g g') (hn : ds.length = n) : EvG T K (gTup K n tgs) is (.tup ds) g g' := fun Hs H σ r v s rv Q q => by
  obtain ⟨a, xs, rfl, h1, h2⟩ := rv.tupI
  exact ⟨a, xs, rfl, s.ex.st h1, h2.length.trans hn, h Hs H σ r xs s h2 Q q⟩

/-! ### loops -/
theorem st_for {ti : TI} (h : EvI T K ti g r ds r1) (I : Nat → G → Rs → Prop) (h0 : I 0 g r1)
    (hs : ∀ i d g' r', ds[i]? = some d → I i g' r' → ∃ g2 is, EvG T K tg is d g' g2 ∧ StD T K E tu g2 r' { O with nx := I (i + 1), ct := I (i + 1), bk := O.nx }) (hd : ∀ g' r', I ds.length g' r' → O.nx g' r') :
    StD T K E (tFor ti tg tu) g r O := fun rf Hs H σ s En Gd =>
  h rf Hs H σ s _ fun J Hs1 H1 e s1 st => by
    refine ⟨fun i m σ' H' => m = ds.length - i ∧ i ≤ ds.length ∧ ∃ Hs' g' r', Ext T Hs1 Hs' ∧ SR T K Hs' H' σ' g' (r' ++ rf) ∧ I i g' r', ⟨_, rfl, Nat.zero_le _, Hs1, g, r1, Ext.refl _, s1, h0⟩, ?_⟩
    rintro i m σ' H' ⟨rfl, hi, Hs', g', r', e', s', w⟩
    obtain ⟨a1, a2⟩ := st i Hs' H' e' s'.ex
    by_cases hlt : i < ds.length
    · obtain ⟨b1, b2⟩ := a2 ds[i] (List.getElem?_eq_getElem hlt)
      refine Or.inr ⟨b1, fun σ2 H2 => ∃ Hs2 g2 r2, Ext T Hs1 Hs2 ∧ SR T K Hs2 H2 σ2 g2 (r2 ++ rf) ∧ I (i + 1) g2 r2, fun σ2 H2 ⟨Hs2, g2, r2, c1, c2, c3⟩ => ⟨ds.length - (i + 1), by omega, rfl, hlt, Hs2, g2, r2, c1, c2, c3⟩, fun v H2 y => ?_⟩
      obtain ⟨Hs2, c1, c2, c3⟩ := b2 v H2 y
      obtain ⟨g2, is, k1, k2⟩ := hs i _ g' r' (List.getElem?_eq_getElem hlt) w
      refine k1 Hs2 H2 σ' _ v (c3 _ _ _ s') c2 _ fun σ3 s3 _ => ?_
      have e2 : Ext T Hs Hs2 := (e.trans e').trans c1
      refine k2 rf Hs2 H2 σ3 s3 _ ⟨fun g3 r3 Hs3 H3 σ4 o e3 s4 => ⟨Hs3, g3, r3, (e'.trans c1).trans e3, s4, o⟩, (Gd.ext e2).rt, (Gd.ext e2).nx, fun g3 r3 Hs3 H3 σ4 o e3 s4 => ⟨Hs3, g3, r3, (e'.trans c1).trans e3, s4, o⟩, (Gd.ext e2).ex⟩
    · have he : i = ds.length := by omega
      subst he
      exact Or.inl ⟨a1 (Nat.le_refl _), Gd.nx _ _ _ _ _ (hd _ _ w) (e.trans e') s'⟩
theorem st_while (I : Nat → G → Rs → Prop) (m0 : Nat) (h0 : I m0 g r)
    (hs : ∀ m g r, I m g r → ∃ b r1, EvT T K t g r b r1 ∧ (b = true → StD T K E tu g r1 { O with nx := fun g r => ∃ m', m' < m ∧ I m' g r, ct := fun g r => ∃ m', m' < m ∧ I m' g r, bk := O.nx }) ∧ (b = false → O.nx g r1)) :
    StD T K E (tWhile t tu) g r O := fun rf Hs H σ s En Gd => by
  refine ⟨fun m σ' H' => ∃ Hs' g' r', Ext T Hs Hs' ∧ SR T K Hs' H' σ' g' (r' ++ rf) ∧ I m g' r', ⟨m0, Hs, g, r, Ext.refl _, s, h0⟩, ?_⟩
  rintro m σ' H' ⟨Hs', g', r', e', s', w⟩
  obtain ⟨b, r1, k1, k2, k3⟩ := hs m g' r' w
  refine k1 rf Hs' H' σ' s' _ fun Hs1 H1 e1 s1 => ?_
  have e2 : Ext T Hs Hs1 := e'.trans e1
  cases b with
  | true =>
    refine ⟨fun σ2 H2 => ∃ Hs2 g2 r2 m', m' < m ∧ Ext T Hs Hs2 ∧ SR T K Hs2 H2 σ2 g2 (r2 ++ rf) ∧ I m' g2 r2, fun σ2 H2 ⟨Hs2, g2, r2, m', c0, c1, c2, c3⟩ => ⟨m', c0, Hs2, g2, r2, c1, c2, c3⟩, ?_⟩
    exact k2 rfl rf Hs1 H1 σ' s1 _ ⟨fun g3 r3 Hs3 H3 σ4 ⟨m', o1, o2⟩ e3 s4 => ⟨Hs3, g3, r3, m', o1, e2.trans e3, s4, o2⟩, (Gd.ext e2).rt, (Gd.ext e2).nx, fun g3 r3 Hs3 H3 σ4 ⟨m', o1, o2⟩ e3 s4 => ⟨Hs3, g3, r3, m', o1, e2.trans e3, s4, o2⟩, (Gd.ext e2).ex⟩
  | false => exact Gd.nx _ _ _ _ _ (k3 rfl) e2 s1

/-! ### what is walked -/
theorem ei_tup {tl : TE} (h : Ev T K tl g r (.tup ds) r1) : EvI T K (iTup K tl) g r ds r1 := fun rf Hs H σ s R q => h rf Hs H σ s _ fun v Hs1 H1 e s1 rv => by
  obtain ⟨a, xs, rfl, h1, h2⟩ := rv.tupI
  refine ⟨a, rfl, ⟨xs, s1.ex.st h1⟩, q _ _ _ e s1 fun i Hs' H' e1 e2 => ⟨fun hl => ⟨xs, e2.st (e1.st h1), by rw [h2.length]; exact hl⟩, fun d hd => ?_⟩⟩
  obtain ⟨v, g1, g2⟩ := h2.get hd
  have hx : SqT K H' a xs := e2.st (e1.st h1)
  refine ⟨⟨xs, v, hx, g1⟩, fun v' H2 y => ?_⟩
  obtain ⟨e3, y⟩ := y
  subst e3
  have ev := y xs hx
  rw [g1] at ev
  cases ev
  exact ⟨Hs', Ext.refl _, DR.mono e1 d g2, fun σ g r s => s⟩
theorem ei_lst {tl : TE} (h : Ev T K tl g r (.lst ds) r1) : EvI T K (iList K tl) g r ds r1 := fun rf Hs H σ s R q => h rf Hs H σ s _ fun v Hs1 H1 e s1 rv => by
  cases rv with
  | @lst a xs _ h1 h2 =>
    have hq : ∀ {Hs' H' : Hp}, Ext T Hs1 Hs' → Ext T Hs' H' → SqL K H' a xs := fun e1 e2 => Evl.sq_of (e2.keep _ _ (e1.keep _ _ h1 (fun _ z => nomatch z)) (fun _ z => nomatch z))
    refine ⟨a, rfl, ⟨xs, hq (Ext.refl _) s1.ex⟩, q _ _ _ e s1 fun i Hs' H' e1 e2 => ⟨fun hl => ⟨xs, hq e1 e2, by rw [h2.length]; exact hl⟩, fun d hd => ?_⟩⟩
    obtain ⟨v, g1, g2⟩ := h2.get hd
    have hx : SqL K H' a xs := hq e1 e2
    refine ⟨⟨xs, v, hx, g1⟩, fun v' H2 y => ?_⟩
    obtain ⟨e3, y⟩ := y
    subst e3
    have ev := y xs hx
    rw [g1] at ev
    cases ev
    exact ⟨Hs', Ext.refl _, DR.mono e1 d g2, fun σ g r s => s⟩
def rgD (lo : Int) (n : Nat) : List D := (List.range n).map fun i => D.int (lo + (i : Nat))
theorem steps_rg {Hs : Hp} {lo : Int} {n : Nat} : Steps T K Hs (Itr lo n) (rgD lo n) := fun i Hs' H' e1 e2 => by
  refine ⟨fun hl => ?_, fun d hd => ?_⟩
  · unfold rgD at hl
    rw [List.length_map, List.length_range] at hl
    exact hl
  · unfold rgD at hd
    rw [List.getElem?_map] at hd
    cases q : (List.range n)[i]? with
    | none => rw [q] at hd; cases hd
    | some m =>
      rw [q] at hd
      obtain ⟨h1, h2⟩ := List.getElem?_eq_some_iff.mp q
      rw [List.getElem_range] at h2
      rw [List.length_range] at h1
      cases hd
      subst h2
      refine ⟨h1, fun v H2 y => ?_⟩
      obtain ⟨y1, y2⟩ := y
      subst y1
      subst y2
      exact ⟨Hs', Ext.refl _, .int _, fun σ g r s => s⟩
theorem ei_rg1 {n : Int} (h : EvA T K tas g r [.int n] r1) (hn : -100000 ≤ n ∧ n ≤ 100000) : EvI T K (iRng1 tas) g r (rgD 0 n.toNat) r1 := fun rf Hs H σ s R q => h rf Hs H σ s _ fun vs Hs1 H1 e s1 rvs => by
  obtain ⟨v, rfl, rv⟩ := rvs.one
  cases rv
  exact ⟨n, rfl, by omega, by omega, q _ _ _ e s1 steps_rg⟩
theorem ei_rg2 {m n : Int} (h : EvA T K tas g r [.int m, .int n] r1) (hm : -100000 ≤ m ∧ m ≤ 100000) (hn : -100000 ≤ n ∧ n ≤ 100000) : EvI T K (iRng2 tas) g r (rgD m (n - m).toNat) r1 := fun rf Hs H σ s R q => h rf Hs H σ s _ fun vs Hs1 H1 e s1 rvs => by
  obtain ⟨v, w, rfl, rv, rw'⟩ := rvs.two
  cases rv
  cases rw'
  exact ⟨m, n, rfl, ⟨by omega, by omega, by omega, by omega⟩, q _ _ _ e s1 steps_rg⟩
end
end DL
namespace DL
open PySem PySem.Spec PyProof.Rows L2
section
variable {T : Tb} {K : PySem.W.Frag} {Hs H Hs' H' : Hp} {σ : L2.St} {g : G} {r : Rs}
theorem SR.perm {r' : Rs} (s : SR T K Hs H σ g r) (p : r.Perm r') : SR T K Hs H σ g r' := by
  have f : (fps r).Perm (fps r') := p.flatMap_right _
  exact ⟨s.ex, s.wf, s.len, s.sl, fun x hx => s.rs x (p.mem_iff.mpr hx), fun q hq => s.fr q (f.mem_iff.mpr hq), f.nodup s.nd⟩
/-- the slots of one state, the rest of a later one -/
theorem SR.back {σ2 : L2.St} {g2 : G} {r2 : Rs} (s : SR T K Hs H σ g r) (e : Ext T Hs Hs') (s2 : SR T K Hs' H' σ2 g2 r2) : SR T K Hs' H' σ g r2 :=
  ⟨s2.ex, s2.wf, s.len, fun i d h => by
    obtain ⟨v, h1, h2⟩ := s.sl i d h
    exact ⟨v, h1, DR.mono e d h2⟩, s2.rs, s2.fr, s2.nd⟩
def wipeG (g : G) : List Nat → G
  | [] => g
  | v :: vs => (wipeG g vs).set v none
theorem SR.setN (s : SR T K Hs H σ g r) (i : Nat) : SR T K Hs H (σ.set i none) (g.set i none) r := by
  refine ⟨s.ex, s.wf, by rw [List.length_set, List.length_set]; exact s.len, fun j e hj => ?_, s.rs, s.fr, s.nd⟩
  by_cases hij : i = j
  · subst hij
    have hl : i < g.length := by
      have q := (List.getElem?_eq_some_iff.mp hj).1
      rw [List.length_set] at q
      exact q
    rw [List.getElem?_set_self hl] at hj
    cases hj
  · rw [List.getElem?_set_ne hij] at hj
    rw [List.getElem?_set_ne hij]
    exact s.sl j e hj
theorem SR.wipe (s : SR T K Hs H σ g r) : ∀ vs : List Nat, SR T K Hs H (L2.wipe σ vs) (wipeG g vs) r
  | [] => s
  | v :: vs => (SR.wipe s vs).setN v
end

section
variable {T : Tb} {K : PySem.W.Frag} {E : XK} {g g' : G} {r r' r1 r2 r3 : Rs} {ta tb tc te : TE} {t : TT} {x y z d : D} {ds es xs : List D} {tas : TA} {O O' : Out} {s1 s2 ts tu : TS} {i j k : Nat} {tg : TG}
/-! ### comprehensions -/
theorem en_lc {ti : TI} {vs : List Nat} {out : List D} {ro : Rs} (h : EvI T K ti g r ds r1) (I : Nat → List D → Rs → Prop) (h0 : I 0 [] r1) (hl : ds.length ≤ 100000)
    (hs : ∀ i d acc r', ds[i]? = some d → I i acc r' → ∃ g2 is, EvG T K tg is d (wipeG g vs) g2 ∧ (∀ i ∈ is, i ∈ vs) ∧ ∃ b r2, EvT T K t g2 r' b r2 ∧ (b = true → ∃ e r3, Ev T K te g2 r2 e r3 ∧ I (i + 1) (acc ++ [e]) r3) ∧ (b = false → I (i + 1) acc r2))
    (hd : ∀ acc r', I ds.length acc r' → acc = out ∧ r' = ro) : EvN T K (tLc ti tg t te vs) g r out ro := fun rf Hs H σ s Q q =>
  h rf Hs H σ s _ fun J Hs1 H1 e s1 st => fun D hD => by
    have s1' : SR T K Hs1 (upd H1 D (.lst [])) σ g (r1 ++ (rl D [] :: rf)) :=
      (s1.own (o := .lst []) hD True.intro (x := rl D []) rfl ⟨[], upd_same, .nil⟩).perm List.perm_middle.symm
    refine ⟨fun i m H' => m = ds.length - i ∧ i ≤ ds.length ∧ ∃ Hs' acc r', Ext T Hs1 Hs' ∧ SR T K Hs' H' σ g (r' ++ (rl D acc :: rf)) ∧ acc.length ≤ i ∧ I i acc r', ⟨_, rfl, Nat.zero_le _, Hs1, [], r1, Ext.refl _, s1', Nat.le_refl _, h0⟩, ?_⟩
    rintro i m H' ⟨rfl, hi, Hs', acc, r', e', s', la, w⟩
    obtain ⟨a1, a2⟩ := st i Hs' H' e' s'.ex
    by_cases hlt : i < ds.length
    · obtain ⟨b1, b2⟩ := a2 ds[i] (List.getElem?_eq_getElem hlt)
      refine Or.inr ⟨b1, fun H2 => ∃ Hs2 acc r2, Ext T Hs1 Hs2 ∧ SR T K Hs2 H2 σ g (r2 ++ (rl D acc :: rf)) ∧ acc.length ≤ i + 1 ∧ I (i + 1) acc r2, fun H2 ⟨Hs2, acc, r2, c1, c2, c3, c4⟩ => ⟨ds.length - (i + 1), by omega, rfl, hlt, Hs2, acc, r2, c1, c2, c3, c4⟩, fun v H2 y => ?_⟩
      obtain ⟨Hs2, c1, c2, c3⟩ := b2 v H2 y
      obtain ⟨g2, is, k1, k0, b, r2, k2, k3, k4⟩ := hs i _ acc r' (List.getElem?_eq_getElem hlt) w
      have sw := (c3 _ _ _ s').wipe vs
      refine k1 Hs2 H2 _ _ v sw c2 _ fun σ3 s3 hw => ⟨?_, ?_⟩
      · rw [hw vs k0]
        have ww : ∀ (u : List Nat) (τ : L2.St), wipe (wipe τ u) u = wipe τ u := by
          intro u τ
          apply List.ext_getElem?
          intro n
          by_cases hn : n ∈ u
          · have gN : ∀ (u : List Nat) (τ : L2.St), n ∈ u → (wipe τ u)[n]? = if n < τ.length then some none else none := by
              intro u
              induction u with
              | nil => intro τ h; exact nomatch h
              | cons a u ih =>
                intro τ h
                show ((wipe τ u).set a none)[n]? = _
                by_cases ha : a = n
                · subst ha
                  rw [List.getElem?_set]
                  simp only [wipe_length, if_true]
                · rw [List.getElem?_set_ne ha]
                  rcases List.mem_cons.mp h with z | z
                  · exact (ha z.symm).elim
                  · exact ih τ z
            rw [gN u _ hn, gN u _ hn, wipe_length]
          · rw [wipe_out hn]
        exact ww vs σ
      · refine k2 _ Hs2 H2 σ3 s3 _ fun Hs3 H3 e3 s4 => ?_
        cases b with
        | true =>
          obtain ⟨el, r3, f1, f2⟩ := k3 rfl
          refine f1 _ Hs3 H3 σ3 s4 _ fun v2 Hs4 H4 e4 s5 rv => ?_
          have hm : rl D acc ∈ r3 ++ (rl D acc :: rf) := by simp
          obtain ⟨ys, q1, q2⟩ := s5.rs _ hm
          have eA : Ext T Hs Hs4 := (((e.trans e').trans c1).trans e3).trans e4
          have hj : (r3 ++ (rl D acc :: rf))[r3.length]? = some (rl D acc) := by simp
          refine ⟨ys, q1, Evl.sz_lt (by rw [q2.length]; omega), Hs4, acc ++ [el], r3, ((e'.trans c1).trans e3).trans e4, ?_, by rw [List.length_append]; simp; omega, f2⟩
          have s6 := s5.mut (y := rl D (acc ++ [el])) (o := .lst (ys ++ [v2])) hj rfl rfl True.intro ⟨_, upd_same, q2.append (.cons rv .nil)⟩
          have er : (r3 ++ (rl D acc :: rf)).set r3.length (rl D (acc ++ [el])) = r3 ++ (rl D (acc ++ [el]) :: rf) := by
            rw [List.set_append_right _ _ (Nat.le_refl _)]
            simp
          rw [er] at s6
          exact s.back eA s6
        | false =>
          have eA : Ext T Hs Hs3 := ((e.trans e').trans c1).trans e3
          exact ⟨Hs3, acc, r2, (e'.trans c1).trans e3, s.back eA s4, by omega, k4 rfl⟩
    · have he : i = ds.length := by omega
      subst he
      obtain ⟨z1, z2⟩ := hd acc r' w
      subst z1
      subst z2
      exact Or.inl ⟨a1 (Nat.le_refl _), q D Hs' H' (e.trans e') (s'.perm List.perm_middle)⟩
theorem et_yes : EvT T K tYes g r true r := fun rf Hs H σ s Q q => q _ _ (Ext.refl _) s

/-! ### what a def promises -/
/-- the ends that are allowed -/
structure Oc where
  ok : D → Rs → Prop
  er : Addr → Rs → Prop
def Oc.one (d : D) (r : Rs) : Oc := ⟨fun x y => x = d ∧ y = r, fun _ _ => False⟩
def Oc.err (C : Addr) (r : Rs) : Oc := ⟨fun _ _ => False, fun x y => x = C ∧ y = r⟩
/-- R: the arguments, what is one's own, the ends -/
def spR (T : Tb) (K : PySem.W.Frag) (n : Nat) (R : List D → Rs → Oc → Prop) : Sp := fun vs H Q E => vs.length = n ∧ ∃ (ds : List D) (r rf : Rs) (Hs : Hp) (o : Oc), SR T K Hs H [] [] (r ++ rf) ∧ DRs K Hs vs ds ∧ R ds r o ∧
  (∀ d r' v Hs' H', o.ok d r' → Ext T Hs Hs' → SR T K Hs' H' [] [] (r' ++ rf) → DR K Hs' v d → Q v H') ∧
  (∀ C r' Hs' H', o.er C r' → Ext T Hs Hs' → SR T K Hs' H' [] [] (r' ++ rf) → E (.ref C) none H')
theorem spR_len {n : Nat} {R : List D → Rs → Oc → Prop} (vs : List V) (H : Hp) (Q : VK) (E : XK) (h : spR T K n R vs H Q E) : vs.length = n := h.1
theorem SR.nil {Hs H : Hp} {σ : L2.St} (s : SR T K Hs H σ g r) : SR T K Hs H [] [] r := ⟨s.ex, s.wf, rfl, fun i d h => by simp at h, s.rs, s.fr, s.nd⟩
/-- the call as it is: the ends that the caller is ready for -/
theorem call_any {n : Nat} {R : List D → Rs → Oc → Prop} {rc rx : Rs} {o : Oc} (h : EvA T K tas g r ds r1) (hp : r1.Perm (rc ++ rx)) (hn : ds.length = n) (hR : R ds rc o) {rf : Rs} {Hs H : Hp} {σ : L2.St} (s : SR T K Hs H σ g (r ++ rf)) {Q : VK}
    (q : ∀ d r' v Hs' H', o.ok d r' → Ext T Hs Hs' → SR T K Hs' H' σ g (r' ++ rx ++ rf) → DR K Hs' v d → Q v H') (qe : ∀ C r' Hs' H', o.er C r' → Ext T Hs Hs' → SR T K Hs' H' σ g (r' ++ rx ++ rf) → E (.ref C) none H') :
    tCall (spR T K n R) [] E tas σ H Q := h rf Hs H σ s _ fun vs Hs1 H1 e s1 rvs => by
  show spR T K n R (vs ++ []) H1 Q E
  rw [List.append_nil]
  refine ⟨by rw [rvs.length]; exact hn, ds, rc, rx ++ rf, Hs1, _, (s1.nil.perm (hp.append_right rf)).perm (by rw [List.append_assoc]), rvs, hR, fun d r' v Hs' H' eo e1 s2 rv => ?_, fun C r' Hs' H' eo e1 s2 => ?_⟩
  · refine q d r' v Hs' H' eo (e.trans e1) ?_ rv
    have := s.back (e.trans e1) s2
    rw [← List.append_assoc] at this
    exact this
  · refine qe C r' Hs' H' eo (e.trans e1) ?_
    have := s.back (e.trans e1) s2
    rw [← List.append_assoc] at this
    exact this
theorem ev_call {n : Nat} {R : List D → Rs → Oc → Prop} {rc rx rc' : Rs} (h : EvA T K tas g r ds r1) (hp : r1.Perm (rc ++ rx)) (hn : ds.length = n) (hR : R ds rc (.one d rc')) : Ev T K (tCall (spR T K n R) [] E tas) g r d (rc' ++ rx) := fun rf Hs H σ s Q q =>
  call_any h hp hn hR s (fun d' r' v Hs' H' eo e1 s2 rv => by
    obtain ⟨rfl, rfl⟩ := eo
    exact q v Hs' H' e1 s2 rv) fun _ _ _ _ eo => eo.elim
/-- nothing of one's own is touched -/
theorem ev_call0 {n : Nat} {R : List D → Rs → Oc → Prop} (h : EvA T K tas g r ds r1) (hn : ds.length = n) (hR : R ds [] (.one d [])) : Ev T K (tCall (spR T K n R) [] E tas) g r d r1 := ev_call (rc := []) (rx := r1) h (List.Perm.refl _) hn hR
theorem perm_pick {α : Type} : ∀ {l : List α} {j : Nat} {a : α}, l[j]? = some a → l.Perm (a :: l.eraseIdx j)
  | b :: l, 0, a, h => by
    simp at h
    subst h
    exact List.Perm.refl _
  | b :: l, j + 1, a, h => by
    simp at h
    exact ((perm_pick h).cons b).trans (List.Perm.swap a b _)
theorem perm_put {α : Type} : ∀ {l : List α} {j : Nat} {a b : α}, l[j]? = some a → (b :: l.eraseIdx j).Perm (l.set j b)
  | c :: l, 0, a, b, h => List.Perm.refl _
  | c :: l, j + 1, a, b, h => by
    simp at h
    exact (List.Perm.swap c b _).trans ((perm_put h).cons c)
/-- one resource turns -/
theorem ev_call1 {n : Nat} {R : List D → Rs → Oc → Prop} {a b : Res} (j : Nat) (h : EvA T K tas g r ds r1) (hj : r1[j]? = some a) (hn : ds.length = n) (hR : R ds [a] (.one d [b])) : Ev T K (tCall (spR T K n R) [] E tas) g r d (r1.set j b) := fun rf Hs H σ s Q q =>
  ev_call (rc := [a]) (rx := r1.eraseIdx j) h (perm_pick hj) hn hR rf Hs H σ s Q fun v Hs1 H1 e s1 rv => q v Hs1 H1 e (s1.perm ((perm_put hj).append_right rf)) rv
/-- the result is new, one's own -/
theorem en_call {n : Nat} {R : List D → Rs → Oc → Prop} (h : EvA T K tas g r ds r1) (hn : ds.length = n) (hR : R ds [] ⟨fun x y => ∃ p, x = .ref p ∧ y = [rl p es], fun _ _ => False⟩) : EvN T K (tCall (spR T K n R) [] E tas) g r es r1 := fun rf Hs H σ s Q q =>
  call_any (rc := []) (rx := r1) h (List.Perm.refl _) hn hR s (fun d' r' v Hs' H' ⟨p, e1, e2⟩ e s2 rv => by
    subst e1
    subst e2
    cases rv
    exact q p Hs' H' e s2) fun _ _ _ _ eo => eo.elim
theorem ex_call {n : Nat} {R : List D → Rs → Oc → Prop} {C : Addr} {rc rx rc' : Rs} (h : EvA T K tas g r ds r1) (hp : r1.Perm (rc ++ rx)) (hn : ds.length = n) (hR : R ds rc (.err C rc')) : EvX T K E (tCall (spR T K n R) [] E tas) g r C (rc' ++ rx) := fun rf Hs H σ s Q q =>
  call_any h hp hn hR s (fun _ _ _ _ _ eo => eo.elim) fun C' r' Hs' H' eo e1 s2 => by
    obtain ⟨rfl, rfl⟩ := eo
    exact q Hs' H' e1 s2
theorem ex_call0 {n : Nat} {R : List D → Rs → Oc → Prop} {C : Addr} (h : EvA T K tas g r ds r1) (hn : ds.length = n) (hR : R ds [] (.err C [])) : EvX T K E (tCall (spR T K n R) [] E tas) g r C r1 := ex_call (rc := []) (rx := r1) h (List.Perm.refl _) hn hR
/-- a body keeps the promise -/
theorem keeps {n : Nat} {R : List D → Rs → Oc → Prop} {N : List Str} {vs : List V} {H : Hp} {Q : VK} {tt : TS} (h : spR T K n R vs H Q E) (hN : n ≤ N.length)
    (hb : ∀ ds r o, ds.length = n → R ds r o → StD T K E tt (ds.map some ++ List.replicate (N.length - n) none) r { nx := fun _ r' => o.ok .non r', rt := fun d r' => o.ok d r', ex := fun C r' => o.er C r' }) :
    tt { nx := fun _ H' => Q .non H', rt := Q } (L2.start N vs) H := by
  obtain ⟨hn, ds, r, rf, Hs, o, s, rvs, hR, q1, q2⟩ := h
  have hl : ds.length = n := by rw [← rvs.length]; exact hn
  refine hb ds r o hl hR rf Hs H (L2.start N vs) ⟨s.ex, s.wf, ?_, fun i d hi => ?_, s.rs, s.fr, s.nd⟩ _ ⟨fun g r' Hs' H' σ o e s' => q1 _ _ _ _ _ o e s'.nil .non, fun d g r' v Hs' H' σ o e s' rv => q1 _ _ _ _ _ o e s'.nil rv, fun _ _ _ _ _ o => o.elim, fun _ _ _ _ _ o => o.elim, fun C g r' Hs' H' σ o e s' => q2 _ _ _ _ o e s'.nil⟩
  · unfold L2.start
    simp only [List.length_append, List.length_map, List.length_replicate]
    omega
  · by_cases hd : i < ds.length
    · rw [List.getElem?_append_left (by simpa using hd), List.getElem?_map] at hi
      cases q : ds[i]? with
      | none => rw [q] at hi; cases hi
      | some d' =>
        rw [q] at hi
        cases hi
        obtain ⟨v, h1, h2⟩ := rvs.get q
        refine ⟨v, ?_, h2⟩
        unfold L2.start
        rw [List.getElem?_append_left (by rw [List.length_map, rvs.length]; exact hd), List.getElem?_map, h1]
        rfl
    · rw [List.getElem?_append_right (by simpa using hd), List.getElem?_replicate] at hi
      split at hi <;> cases hi

/-! ### lists of one's own turn -/
theorem ty_own {p : Addr} {rf : Rs} {Hs H : Hp} {σ : L2.St} (s : SR T K Hs H σ g (r ++ rf)) (hj : r[j]? = some (rl p ds)) : tyV K "list" (.ref p) H := by
  obtain ⟨ys, h1, h2⟩ := s.rs _ (List.mem_append_left _ (List.mem_of_getElem? hj))
  exact Or.inl ⟨rfl, ys, Evl.sq_of h1⟩
/-- a method of a list of one's own that turns it: from what it holds to what it holds behind -/
theorem SR.turn {p : Addr} {rf : Rs} {Hs H : Hp} {σ : L2.St} {ys : List V} (s : SR T K Hs H σ g (r ++ rf)) (hj : r[j]? = some (rl p ds)) (h : DRs K Hs ys es) : SR T K Hs (upd H p (.lst ys)) σ g (r.set j (rl p es) ++ rf) := by
  have := s.mut (y := rl p es) (o := .lst ys) (get_app hj) rfl rfl True.intro ⟨_, upd_same, h⟩
  rw [set_app hj] at this
  exact this
theorem ev_append {p : Addr} {ds0 : List D} (j : Nat) (h0 : Ev T K ta g r (.ref p) r1) (hj0 : r1[j]? = some (rl p ds0)) (h : Ev T K te g r1 d r2) (hj : r2[j]? = some (rl p ds)) (hl : ds.length < 100000) : Ev T K (tBM K "list" rAppend ta (tCons te tNil)) g r .non (r2.set j (rl p (ds ++ [d]))) := fun rf Hs H σ s Q q =>
  h0 rf Hs H σ s _ fun v Hs1 H1 e1 s1 rv => by
    cases rv
    refine ⟨ty_own s1 hj0, h rf Hs1 H1 σ s1 _ fun v Hs2 H2 e2 s2 rv => ?_⟩
    obtain ⟨ys, h1, h2⟩ := s2.rs _ (List.mem_append_left _ (List.mem_of_getElem? hj))
    exact ⟨p, ys, v, rfl, rfl, h1, Evl.sz_lt (by rw [h2.length]; exact hl), q _ _ _ (e1.trans e2) (s2.turn hj (h2.append (.cons rv .nil))) .non⟩
theorem DRs.dropLast {Hs : Hp} : ∀ {vs : List V} {ds : List D}, DRs K Hs vs ds → DRs K Hs vs.dropLast ds.dropLast
  | _, _, .nil => .nil
  | _, _, .cons r .nil => .nil
  | _, _, .cons r (.cons a b) => .cons r (DRs.dropLast (.cons a b))
theorem ev_pop {p : Addr} (j : Nat) (h0 : Ev T K ta g r (.ref p) r1) (hj : r1[j]? = some (rl p ds)) (hd : ds[ds.length - 1]? = some d) : Ev T K (tBM0 K "list" rPop ta) g r d (r1.set j (rl p ds.dropLast)) := fun rf Hs H σ s Q q =>
  h0 rf Hs H σ s _ fun v Hs1 H1 e1 s1 rv => by
    cases rv
    obtain ⟨ys, h1, h2⟩ := s1.rs _ (List.mem_append_left _ (List.mem_of_getElem? hj))
    obtain ⟨w, q1, q2⟩ := h2.get hd
    exact ⟨ty_own s1 hj, p, ys, w, rfl, rfl, h1, by rw [h2.length]; exact q1, q _ _ _ e1 (s1.turn hj h2.dropLast) q2⟩
/-- xs[i] = e -/
theorem st_setL {p : Addr} (j : Nat) {m : Nat} {n : Int} (h : Ev T K te g r d r1) (h0 : Ev T K ta g r1 (.ref p) r2) (hi : Ev T K tb g r2 (.int n) r3) (hj : r3[j]? = some (rl p ds)) (hm : ixN ds.length n = some m) (h2 : O.nx g (r3.set j (rl p (ds.set m d)))) : StD T K E (tAsg te (gSub ta tb rSetL)) g r O := fun rf Hs H σ s En G =>
  h rf Hs H σ s _ fun v Hs1 H1 e1 s1 rv => h0 rf Hs1 H1 σ s1 _ fun u Hs2 H2 e2 s2 ru => hi rf Hs2 H2 σ s2 _ fun w Hs3 H3 e3 s3 rw' => by
    cases ru
    cases rw'
    obtain ⟨ys, q1, q2⟩ := s3.rs _ (List.mem_append_left _ (List.mem_of_getElem? hj))
    exact ⟨p, ys, n, m, rfl, rfl, q1, by rw [q2.length]; exact hm, G.nx _ _ _ _ _ h2 ((e1.trans e2).trans e3) (s3.turn hj (q2.set (DR.mono (e2.trans e3) d rv) m))⟩
theorem sq_setL {p : Addr} (j : Nat) {m : Nat} {n : Int} (h : Ev T K te g r d r1) (h0 : Ev T K ta g r1 (.ref p) r2) (hi : Ev T K tb g r2 (.int n) r3) (hj : r3[j]? = some (rl p ds)) (hm : ixN ds.length n = some m) (h2 : StD T K E ts g (r3.set j (rl p (ds.set m d))) O) : StD T K E (tSeq (tAsg te (gSub ta tb rSetL)) ts) g r O := fun rf Hs H σ s En G =>
  h rf Hs H σ s _ fun v Hs1 H1 e1 s1 rv => h0 rf Hs1 H1 σ s1 _ fun u Hs2 H2 e2 s2 ru => hi rf Hs2 H2 σ s2 _ fun w Hs3 H3 e3 s3 rw' => by
    cases ru
    cases rw'
    obtain ⟨ys, q1, q2⟩ := s3.rs _ (List.mem_append_left _ (List.mem_of_getElem? hj))
    exact ⟨p, ys, n, m, rfl, rfl, q1, by rw [q2.length]; exact hm, h2 rf _ _ _ (s3.turn hj (q2.set (DR.mono (e2.trans e3) d rv) m)) _ (G.ext ((e1.trans e2).trans e3))⟩

/-! ### lists and tuples joined, cut -/
theorem en_cat (h1 : Ev T K ta g r x r1) (h2 : Ev T K tb g r1 y r2) (v1 : Vl x r2 ds) (v2 : Vl y r2 es) (hl : ds.length + es.length ≤ 100000) : EvN T K (tOp rCat ta tb) g r (ds ++ es) r2 := fun rf Hs H σ s Q q =>
  h1 rf Hs H σ s _ fun u Hs1 H1 e1 s1 ru => h2 rf Hs1 H1 σ s1 _ fun v Hs2 H2 e2 s2 rv => by
    obtain ⟨a, xs, rfl, a1, a2⟩ := v1.at s2 (DR.mono e2 x ru)
    obtain ⟨b, zs, rfl, b1, b2⟩ := v2.at s2 rv
    exact ⟨a, b, xs, zs, rfl, rfl, a1, b1, by rw [a2.length, b2.length]; exact Evl.sz_of hl, fun p hp => q p Hs2 _ (e1.trans e2) (s2.own (o := .lst (xs ++ zs)) hp True.intro (x := rl p (ds ++ es)) rfl ⟨_, upd_same, a2.append b2⟩)⟩
theorem en_rep {n : Int} (h1 : Ev T K ta g r x r1) (h2 : Ev T K tb g r1 (.int n) r2) (v1 : Vl x r2 ds) (hn : 0 ≤ n ∧ n ≤ 100000) (hl : ds.length * n.toNat ≤ 100000) : EvN T K (tOp rRep ta tb) g r (List.replicate n.toNat ds).flatten r2 := fun rf Hs H σ s Q q =>
  h1 rf Hs H σ s _ fun u Hs1 H1 e1 s1 ru => h2 rf Hs1 H1 σ s1 _ fun v Hs2 H2 e2 s2 rv => by
    obtain ⟨a, xs, rfl, a1, a2⟩ := v1.at s2 (DR.mono e2 x ru)
    cases rv
    refine ⟨a, n, xs, rfl, rfl, a1, by omega, by omega, by rw [a2.length]; exact Evl.sz_of hl, fun p hp => q p Hs2 _ (e1.trans e2) (s2.own (o := .lst _) hp True.intro (x := rl p _) rfl ⟨_, upd_same, ?_⟩)⟩
    have rep : ∀ m : Nat, DRs K Hs2 (List.replicate m xs).flatten (List.replicate m ds).flatten := by
      intro m
      induction m with
      | zero => exact .nil
      | succ m ih =>
        rw [List.replicate_succ, List.replicate_succ, List.flatten_cons, List.flatten_cons]
        exact a2.append ih
    exact rep _
theorem od_catT (hl : ds.length + es.length ≤ 100000) : OpD T K (rCatA K) (.tup ds) (.tup es) g r (.tup (ds ++ es)) r := fun rf Hs H σ u v s ru rv Q q => by
  obtain ⟨a, xs, rfl, a1, a2⟩ := ru.tupI
  obtain ⟨b, zs, rfl, b1, b2⟩ := rv.tupI
  refine ⟨a, b, xs, zs, rfl, rfl, s.ex.st a1, s.ex.st b1, by rw [a2.length, b2.length]; exact Evl.sz_of hl, fun e => ?_, fun _ e => ?_, fun _ _ p hp => ?_⟩
  · subst e
    cases a2
    exact q _ _ _ (Ext.refl _) s (.tup b1 b2)
  · subst e
    cases b2
    rw [List.append_nil] at q
    exact q _ _ _ (Ext.refl _) s (.tup a1 a2)
  · obtain ⟨s2, e2⟩ := s.alloc (o := .tup (xs ++ zs)) hp True.intro
    exact q _ _ _ e2 s2 (.tup (Evl.st_of upd_same) (DRs.mono e2 _ (a2.append b2)))
/-- the items of xs[lo:hi] -/
def cutD (ds : List D) (lo hi : Option Int) : List D := (ds.drop (HT.sIx ds.length 0 lo)).take (HT.sIx ds.length ds.length hi - HT.sIx ds.length 0 lo)
theorem DRs.cut {Hs : Hp} {vs : List V} (h : DRs K Hs vs ds) (lo hi : Option Int) : DRs K Hs (cutV vs lo hi) (cutD ds lo hi) := by
  unfold cutV cutD
  rw [h.length]
  exact (h.drop _).take _
theorem eo_none : EvO T K tNoPart g r none r := fun rf Hs H σ s Q q => q _ _ (Ext.refl _) s
theorem eo_some {n : Int} (h : Ev T K te g r (.int n) r1) : EvO T K (tPart te) g r (some n) r1 := fun rf Hs H σ s Q q => h rf Hs H σ s _ fun v Hs1 H1 e s1 rv => by
  cases rv
  exact ⟨n, rfl, q _ _ e s1⟩
theorem ev_slT {tl th : TO} {lo hi : Option Int} (h : Ev T K te g r (.tup ds) r1) (h1 : EvO T K tl g r1 lo r2) (h2 : EvO T K th g r2 hi r3) : Ev T K (tSl (rSlA K) te tl th) g r (.tup (cutD ds lo hi)) r3 := fun rf Hs H σ s Q q =>
  h rf Hs H σ s _ fun v Hs1 H1 e1 s1 rv => h1 rf Hs1 H1 σ s1 _ fun Hs2 H2 e2 s2 => h2 rf Hs2 H2 σ s2 _ fun Hs3 H3 e3 s3 => by
    obtain ⟨a, xs, rfl, a1, a2⟩ := (DR.mono (e2.trans e3) _ rv).tupI
    refine ⟨a, xs, rfl, s3.ex.st a1, fun w => ?_, fun _ p hp => ?_⟩
    · have e : cutD ds lo hi = ds := by
        unfold cutD
        rw [a2.length] at w
        rw [w.1, w.2]
        simp
      rw [e] at q
      exact q _ _ _ ((e1.trans e2).trans e3) s3 (.tup a1 a2)
    · obtain ⟨s4, e4⟩ := s3.alloc (o := .tup (cutV xs lo hi)) hp True.intro
      exact q _ _ _ (((e1.trans e2).trans e3).trans e4) s4 (.tup (Evl.st_of upd_same) (DRs.mono e4 _ (a2.cut lo hi)))
theorem en_slL {tl th : TO} {lo hi : Option Int} (h : Ev T K te g r x r1) (h1 : EvO T K tl g r1 lo r2) (h2 : EvO T K th g r2 hi r3) (v : Vl x r3 ds) : EvN T K (tSl (rSlL K) te tl th) g r (cutD ds lo hi) r3 := fun rf Hs H σ s Q q =>
  h rf Hs H σ s _ fun w Hs1 H1 e1 s1 rv => h1 rf Hs1 H1 σ s1 _ fun Hs2 H2 e2 s2 => h2 rf Hs2 H2 σ s2 _ fun Hs3 H3 e3 s3 => by
    obtain ⟨a, xs, rfl, a1, a2⟩ := v.at s3 (DR.mono (e2.trans e3) _ rv)
    exact ⟨a, xs, rfl, Evl.sq_of a1, fun p hp => q p _ _ ((e1.trans e2).trans e3) (s3.own (o := .lst _) hp True.intro (x := rl p _) rfl ⟨_, upd_same, a2.cut lo hi⟩)⟩
end
end DL
namespace DL
open PySem PySem.Spec PyProof.Rows L2
/-! ### == of data -/
mutual
def toPy : D → PyData
  | .non => .none
  | .bl b => .bool b
  | .int i => .int i
  | .str x => .str x
  | .tup ds => .tuple (toPys ds)
  | .lst ds => .list (toPys ds)
  | _ => .none
def toPys : List D → List PyData
  | [] => []
  | d :: ds => toPy d :: toPys ds
end
mutual
/-- plain data -/
def pl : D → Bool
  | .non | .bl _ | .int _ => true
  | .str x => PyData.strOk x
  | .tup ds => pls ds
  | .lst ds => pls ds
  | _ => false
def pls : List D → Bool
  | [] => true
  | d :: ds => pl d && pls ds
end
mutual
/-- plain data without bools -/
def nb : D → Bool
  | .non | .int _ | .str _ => true
  | .tup ds => nbs ds
  | .lst ds => nbs ds
  | _ => false
def nbs : List D → Bool
  | [] => true
  | d :: ds => nb d && nbs ds
end
mutual
def dep : D → Nat
  | .tup ds => deps ds + 1
  | .lst ds => deps ds + 1
  | _ => 0
def deps : List D → Nat
  | [] => 0
  | d :: ds => max (dep d) (deps ds)
end
def eqD (a b : D) : Bool := PyData.eqv (toPy a) (toPy b)
mutual
theorem eqv_nb : ∀ (a b : D), nb a = true → nb b = true → (PyData.eqv (toPy a) (toPy b) = true ↔ a = b)
  | .non, b, _, hb => by cases b <;> simp [nb, toPy, PyData.eqv] at hb ⊢
  | .int i, b, _, hb => by cases b <;> simp [nb, toPy, PyData.eqv] at hb ⊢
  | .str i, b, _, hb => by cases b <;> simp [nb, toPy, PyData.eqv] at hb ⊢
  | .tup ds, b, ha, hb => by
    cases b with
    | tup es => simpa [toPy, PyData.eqv] using eqvs_nb ds es (by simpa [nb] using ha) (by simpa [nb] using hb)
    | _ => simp [nb, toPy, PyData.eqv] at hb ⊢
  | .lst ds, b, ha, hb => by
    cases b with
    | lst es => simpa [toPy, PyData.eqv] using eqvs_nb ds es (by simpa [nb] using ha) (by simpa [nb] using hb)
    | _ => simp [nb, toPy, PyData.eqv] at hb ⊢
  | .bl _, _, ha, _ => by simp [nb] at ha
  | .ins _ _ _, _, ha, _ => by simp [nb] at ha
  | .dk _ _, _, ha, _ => by simp [nb] at ha
  | .dt _ _, _, ha, _ => by simp [nb] at ha
  | .tux _, _, ha, _ => by simp [nb] at ha
  | .lam _, _, ha, _ => by simp [nb] at ha
  | .lsq _, _, ha, _ => by simp [nb] at ha
  | .ref _, _, ha, _ => by simp [nb] at ha
theorem eqvs_nb : ∀ (a b : List D), nbs a = true → nbs b = true → (PyData.eqvAll (toPys a) (toPys b) = true ↔ a = b)
  | [], [], _, _ => by simp [toPys, PyData.eqvAll]
  | [], b :: bs, _, _ => by simp [toPys, PyData.eqvAll]
  | a :: as, [], _, _ => by simp [toPys, PyData.eqvAll]
  | a :: as, b :: bs, ha, hb => by
    have h1 := eqv_nb a b (by simp [nbs] at ha; exact ha.1) (by simp [nbs] at hb; exact hb.1)
    have h2 := eqvs_nb as bs (by simp [nbs] at ha; exact ha.2) (by simp [nbs] at hb; exact hb.2)
    simp [toPys, PyData.eqvAll, h1, h2]
end
theorem eqD_iff {a b : D} (ha : nb a = true) (hb : nb b = true) : eqD a b = true ↔ a = b := eqv_nb a b ha hb
theorem eqD_no {a b : D} (ha : nb a = true) (hb : nb b = true) : eqD a b = false ↔ a ≠ b := by
  rw [← Bool.not_eq_true, eqD_iff ha hb]
mutual
theorem canLay_pl : ∀ d : D, pl d = true → (toPy d).canLay0 = true
  | .non, _ => rfl
  | .bl _, _ => rfl
  | .int _, _ => rfl
  | .str x, h => by simpa [toPy, PyData.canLay0, pl] using h
  | .tup ds, h => by simpa [toPy, PyData.canLay0] using canLays_pl ds (by simpa [pl] using h)
  | .lst ds, h => by simpa [toPy, PyData.canLay0] using canLays_pl ds (by simpa [pl] using h)
  | .ins _ _ _, h => by simp [pl] at h
  | .dk _ _, h => by simp [pl] at h
  | .dt _ _, h => by simp [pl] at h
  | .tux _, h => by simp [pl] at h
  | .lam _, h => by simp [pl] at h
  | .lsq _, h => by simp [pl] at h
  | .ref _, h => by simp [pl] at h
theorem canLays_pl : ∀ ds : List D, pls ds = true → PyData.canLayAll0 (toPys ds) = true
  | [], _ => rfl
  | d :: ds, h => by
    simp [pls] at h
    simp [toPys, PyData.canLayAll0, canLay_pl d h.1, canLays_pl ds h.2]
end
mutual
theorem dep_eq : ∀ d : D, (toPy d).depth = dep d
  | .non => rfl
  | .bl _ => rfl
  | .int _ => rfl
  | .str _ => rfl
  | .tup ds => by simp [toPy, PyData.depth, dep, deps_eq ds]
  | .lst ds => by simp [toPy, PyData.depth, dep, deps_eq ds]
  | .ins _ _ _ => rfl
  | .dk _ _ => rfl
  | .dt _ _ => rfl
  | .tux _ => rfl
  | .lam _ => rfl
  | .lsq _ => rfl
  | .ref _ => rfl
theorem deps_eq : ∀ ds : List D, PyData.depthAll (toPys ds) = deps ds
  | [] => rfl
  | d :: ds => by simp [toPys, PyData.depthAll, deps, dep_eq d, deps_eq ds]
end
/-- plain and not deep -/
def sh (d : D) : Bool := pl d && decide (dep d ≤ 64)
theorem sh_shaped {d : D} (h : sh d = true) : SeqAt.shaped (toPy d) = true := by
  simp only [sh, Bool.and_eq_true, decide_eq_true_eq] at h
  unfold SeqAt.shaped
  rw [canLay_pl d h.1, dep_eq d]
  simpa using h.2
mutual
theorem DR.dp {T : Tb} {K : PySem.W.Frag} {Hs H : Hp} (e : Ext T Hs H) : ∀ (d : D) {v : V}, pl d = true → DR K Hs v d → Dp K H v (toPy d)
  | .non, _, _, h => by cases h; exact .non
  | .bl b, _, _, h => by cases h; exact .bl b
  | .int i, _, _, h => by cases h; exact .int i
  | .str i, _, _, h => by cases h; exact .str i
  | .tup ds, _, hp, h => by cases h with | tup h1 h2 => exact .tup (e.st h1) (DRs.dp e ds (by simpa [pl] using hp) h2)
  | .lst ds, _, hp, h => by cases h with | lst h1 h2 => exact .lst (Evl.sq_of (e.keep _ _ h1 (fun _ z => nomatch z))) (DRs.dp e ds (by simpa [pl] using hp) h2)
  | .ins _ _ _, _, h, _ => by simp [pl] at h
  | .dk _ _, _, h, _ => by simp [pl] at h
  | .dt _ _, _, h, _ => by simp [pl] at h
  | .tux _, _, h, _ => by simp [pl] at h
  | .lam _, _, h, _ => by simp [pl] at h
  | .lsq _, _, h, _ => by simp [pl] at h
  | .ref _, _, h, _ => by simp [pl] at h
theorem DRs.dp {T : Tb} {K : PySem.W.Frag} {Hs H : Hp} (e : Ext T Hs H) : ∀ (ds : List D) {vs : List V}, pls ds = true → DRs K Hs vs ds → DpAll K H vs (toPys ds)
  | [], _, _, h => by cases h; exact .nil
  | d :: ds, _, hp, h => by
    simp [pls] at hp
    cases h with
    | cons h1 h2 => exact .cons (DR.dp e d hp.1 h1) (DRs.dp e ds hp.2 h2)
end
section
variable {T : Tb} {K : PySem.W.Frag} {E : XK} {g g' : G} {r r' r1 r2 r3 : Rs} {ta tb tc te : TE} {t : TT} {x y z d : D} {ds es xs : List D} {tas : TA} {O O' : Out} {s1 s2 ts tu : TS} {i j k : Nat} {tg : TG}
/-- x is to be read as the data d: it is d, or a list of one's own -/
def Vd (x : D) (r : Rs) (d : D) : Prop := x = d ∨ ∃ ds, d = .lst ds ∧ Vl x r ds
theorem vd_f : Vd d r d := Or.inl rfl
theorem vd_o {p : Addr} (j : Nat) (h : r[j]? = some (rl p ds)) : Vd (.ref p) r (.lst ds) := Or.inr ⟨ds, rfl, vl_o j h⟩
theorem Vd.dp {rf : Rs} {Hs H : Hp} {σ : L2.St} {v : V} (h : Vd x r d) (s : SR T K Hs H σ g (r ++ rf)) (rv : DR K Hs v x) (hp : pl d = true) : Dp K H v (toPy d) := by
  rcases h with e | ⟨ds, e, h⟩
  · subst e
    exact DR.dp s.ex _ hp rv
  · subst e
    obtain ⟨a, xs, rfl, h1, h2⟩ := h.at s rv
    exact .lst (Evl.sq_of h1) (DRs.dp s.ex ds (by simpa [pl] using hp) h2)
theorem od_eqD {a b : D} (v1 : Vd x r a) (v2 : Vd y r b) (h1 : sh a = true) (h2 : sh b = true) : OpD T K (rEqD K) x y g r (.bl (eqD a b)) r := fun rf Hs H σ u v s ru rv Q q => by
  have p1 : pl a = true := by simp [sh] at h1; exact h1.1
  have p2 : pl b = true := by simp [sh] at h2; exact h2.1
  exact ⟨_, _, v1.dp s ru p1, v2.dp s rv p2, sh_shaped h1, sh_shaped h2, q _ _ _ (Ext.refl _) s (.bl _)⟩
theorem od_neD {a b : D} (v1 : Vd x r a) (v2 : Vd y r b) (h1 : sh a = true) (h2 : sh b = true) : OpD T K (rNeD K) x y g r (.bl (!eqD a b)) r := fun rf Hs H σ u v s ru rv Q q => by
  have p1 : pl a = true := by simp [sh] at h1; exact h1.1
  have p2 : pl b = true := by simp [sh] at h2; exact h2.1
  exact ⟨_, _, v1.dp s ru p1, v2.dp s rv p2, sh_shaped h1, sh_shaped h2, q _ _ _ (Ext.refl _) s (.bl _)⟩
theorem od_inD {a : D} (v1 : Vd x r a) (v2 : Vl y r ds) (h1 : sh a = true) (h2 : sh (.lst ds) = true) : OpD T K (rInD K) x y g r (.bl (ds.any fun z => eqD z a)) r := fun rf Hs H σ u v s ru rv Q q => by
  have p1 : pl a = true := by simp [sh] at h1; exact h1.1
  have p2 : pl (.lst ds) = true := by simp [sh] at h2; exact h2.1
  have hv : Vd y r (.lst ds) := Or.inr ⟨ds, rfl, v2⟩
  have e : ∀ l : List D, ((toPys l).any fun z => PyData.eqv z (toPy a)) = l.any fun z => eqD z a := by
    intro l
    induction l with
    | nil => rfl
    | cons b l ih =>
      show (PyData.eqv (toPy b) (toPy a) || (toPys l).any _) = (eqD b a || l.any _)
      rw [ih]
      rfl
  refine ⟨_, toPys ds, v1.dp s ru p1, hv.dp s rv p2, sh_shaped h1, sh_shaped h2, ?_⟩
  rw [e]
  exact q _ _ _ (Ext.refl _) s (.bl _)
theorem od_ninD {a : D} (v1 : Vd x r a) (v2 : Vl y r ds) (h1 : sh a = true) (h2 : sh (.lst ds) = true) : OpD T K (rNotInD K) x y g r (.bl (!ds.any fun z => eqD z a)) r := fun rf Hs H σ u v s ru rv Q q => by
  have p1 : pl a = true := by simp [sh] at h1; exact h1.1
  have p2 : pl (.lst ds) = true := by simp [sh] at h2; exact h2.1
  have hv : Vd y r (.lst ds) := Or.inr ⟨ds, rfl, v2⟩
  have e : ∀ l : List D, ((toPys l).any fun z => PyData.eqv z (toPy a)) = l.any fun z => eqD z a := by
    intro l
    induction l with
    | nil => rfl
    | cons b l ih =>
      show (PyData.eqv (toPy b) (toPy a) || (toPys l).any _) = (eqD b a || l.any _)
      rw [ih]
      rfl
  refine ⟨_, toPys ds, v1.dp s ru p1, hv.dp s rv p2, sh_shaped h1, sh_shaped h2, ?_⟩
  rw [e]
  exact q _ _ _ (Ext.refl _) s (.bl _)
/-! ### x in a list or tuple of scalars -/
def fv : D → Option V
  | .int i => some (.int i)
  | .str x => some (.str x)
  | _ => none
theorem flat_of {Hs : Hp} {v : V} (rv : DR K Hs v x) {u : V} (h : fv x = some u) : v = u ∧ flatV v = true := by
  cases rv <;> simp [fv] at h <;> subst h <;> exact ⟨rfl, rfl⟩
theorem flats_int {Hs : Hp} : ∀ {ns : List Int} {vs : List V}, DRs K Hs vs (ns.map D.int) → vs.all flatV = true := by
  intro ns vs h
  rw [DRs.ints_inv h]
  rw [List.all_map]
  exact List.all_eq_true.mpr fun _ _ => rfl
theorem flats_str {Hs : Hp} : ∀ {ns : List Str} {vs : List V}, DRs K Hs vs (ns.map D.str) → vs.all flatV = true := by
  intro ns vs h
  rw [DRs.strs_inv h]
  rw [List.all_map]
  exact List.all_eq_true.mpr fun _ _ => rfl
theorem inV_int (i : Int) (ns : List Int) : inV (.int i) (ns.map V.int) = decide (i ∈ ns) := by
  unfold inV
  rw [List.any_map, Bool.eq_iff_iff, List.any_eq_true, decide_eq_true_eq]
  constructor
  · rintro ⟨n, hn, h⟩
    have : n = i := by simpa [eqV] using h
    exact this ▸ hn
  · intro h
    exact ⟨i, h, by simp [eqV]⟩
theorem inV_str (i : Str) (ns : List Str) : inV (.str i) (ns.map V.str) = decide (i ∈ ns) := by
  unfold inV
  rw [List.any_map, Bool.eq_iff_iff, List.any_eq_true, decide_eq_true_eq]
  constructor
  · rintro ⟨n, hn, h⟩
    have : n = i := by simpa [eqV] using h
    exact this ▸ hn
  · intro h
    exact ⟨i, h, by simp [eqV]⟩
theorem od_inI {m : Int} {ns : List Int} (h : Vs y r (ns.map D.int)) : OpD T K (rIn K false) (.int m) y g r (.bl (decide (m ∈ ns))) r := fun rf Hs H σ u v s ru rv Q q => by
  cases ru
  obtain ⟨a, xs, rfl, h1, h2⟩ := h.at s rv
  have e := DRs.ints_inv h2
  subst e
  refine ⟨a, _, rfl, h1, rfl, flats_int h2, ?_⟩
  show Q (.bl (inV (.int m) (ns.map V.int))) H
  rw [inV_int]
  exact q _ _ _ (Ext.refl _) s (.bl _)
theorem od_ninI {m : Int} {ns : List Int} (h : Vs y r (ns.map D.int)) : OpD T K (rIn K true) (.int m) y g r (.bl (decide (m ∉ ns))) r := fun rf Hs H σ u v s ru rv Q q => by
  cases ru
  obtain ⟨a, xs, rfl, h1, h2⟩ := h.at s rv
  have e := DRs.ints_inv h2
  subst e
  refine ⟨a, _, rfl, h1, rfl, flats_int h2, ?_⟩
  show Q (.bl (!inV (.int m) (ns.map V.int))) H
  rw [inV_int, ← decide_not]
  exact q _ _ _ (Ext.refl _) s (.bl _)
theorem od_inSt {m : Str} {ns : List Str} (h : Vs y r (ns.map D.str)) : OpD T K (rIn K false) (.str m) y g r (.bl (decide (m ∈ ns))) r := fun rf Hs H σ u v s ru rv Q q => by
  cases ru
  obtain ⟨a, xs, rfl, h1, h2⟩ := h.at s rv
  have e := DRs.strs_inv h2
  subst e
  refine ⟨a, _, rfl, h1, rfl, flats_str h2, ?_⟩
  show Q (.bl (inV (.str m) (ns.map V.str))) H
  rw [inV_str]
  exact q _ _ _ (Ext.refl _) s (.bl _)
theorem od_ninSt {m : Str} {ns : List Str} (h : Vs y r (ns.map D.str)) : OpD T K (rIn K true) (.str m) y g r (.bl (decide (m ∉ ns))) r := fun rf Hs H σ u v s ru rv Q q => by
  cases ru
  obtain ⟨a, xs, rfl, h1, h2⟩ := h.at s rv
  have e := DRs.strs_inv h2
  subst e
  refine ⟨a, _, rfl, h1, rfl, flats_str h2, ?_⟩
  show Q (.bl (!inV (.str m) (ns.map V.str))) H
  rw [inV_str, ← decide_not]
  exact q _ _ _ (Ext.refl _) s (.bl _)

/-! ### tuple(..), list(..), range(..) -/
theorem ev_tupOf (h : Ev T K ta g r x r1) (hv : Vs x r1 ds) : Ev T K (tThen ta (kTup K)) g r (.tup ds) r1 := fun rf Hs H σ s Q q => h rf Hs H σ s _ fun v Hs1 H1 e s1 ru => by
  rcases hv with e2 | hv
  · subst e2
    obtain ⟨a, xs, rfl, h1, h2⟩ := ru.tupI
    exact Or.inr ⟨a, xs, rfl, s1.ex.st h1, q _ _ _ e s1 (.tup h1 h2)⟩
  · obtain ⟨a, xs, rfl, h1, h2⟩ := hv.at s1 ru
    refine Or.inl ⟨a, xs, rfl, Evl.sq_of h1, fun p hp => ?_⟩
    obtain ⟨s2, e2⟩ := s1.alloc (o := .tup xs) hp True.intro
    exact q _ _ _ (e.trans e2) s2 (.tup (Evl.st_of upd_same) (DRs.mono e2 _ h2))
def EvR (T : Tb) (K : PySem.W.Frag) (tr : L2.St → Hp → (Int → Int → Hp → Prop) → Prop) (g : G) (r : Rs) (a b : Int) (r' : Rs) : Prop := ∀ (rf : Rs) (Hs H : Hp) (σ : L2.St), SR T K Hs H σ g (r ++ rf) → ∀ Q : Int → Int → Hp → Prop,
  (∀ Hs' H', Ext T Hs Hs' → SR T K Hs' H' σ g (r' ++ rf) → Q a b H') → tr σ H Q
theorem er_1 {n : Int} (h : Ev T K ta g r (.int n) r1) : EvR T K (tRg1 ta) g r 0 n r1 := fun rf Hs H σ s Q q => h rf Hs H σ s _ fun v Hs1 H1 e s1 ru => by
  cases ru
  exact ⟨n, rfl, q _ _ e s1⟩
theorem er_2 {m n : Int} (h : Ev T K ta g r (.int m) r1) (h2 : Ev T K tb g r1 (.int n) r2) : EvR T K (tRg2 ta tb) g r m n r2 := fun rf Hs H σ s Q q => h rf Hs H σ s _ fun v Hs1 H1 e s1 ru => h2 rf Hs1 H1 σ s1 _ fun w Hs2 H2 e2 s2 rw' => by
  cases ru
  cases rw'
  exact ⟨m, n, rfl, rfl, q _ _ (e.trans e2) s2⟩
theorem DRs.rg {Hs : Hp} (a b : Int) : DRs K Hs (rgV a b) (rgD a (b - a).toNat) := by
  unfold rgV rgD
  have f : ∀ l : List Nat, DRs K Hs (l.map fun i => V.int (a + (i : Nat))) (l.map fun i => D.int (a + (i : Nat))) := by
    intro l
    induction l with
    | nil => exact .nil
    | cons i l ih => exact .cons (.int _) ih
  exact f _
theorem ev_tupRg {tr : L2.St → Hp → (Int → Int → Hp → Prop) → Prop} {a b : Int} (h : EvR T K tr g r a b r1) (ha : -100000 ≤ a ∧ a ≤ 100000) (hb : -100000 ≤ b ∧ b ≤ 100000) : Ev T K (tTupRg tr) g r (.tup (rgD a (b - a).toNat)) r1 := fun rf Hs H σ s Q q => h rf Hs H σ s _ fun Hs1 H1 e s1 => by
  refine ⟨⟨by omega, by omega, by omega, by omega, by omega⟩, fun p hp => ?_⟩
  obtain ⟨s2, e2⟩ := s1.alloc (o := .tup (rgV a b)) hp True.intro
  exact q _ _ _ (e.trans e2) s2 (.tup (Evl.st_of upd_same) (DRs.rg a b))
theorem en_lstRg {tr : L2.St → Hp → (Int → Int → Hp → Prop) → Prop} {a b : Int} (h : EvR T K tr g r a b r1) (ha : -100000 ≤ a ∧ a ≤ 100000) (hb : -100000 ≤ b ∧ b ≤ 100000) : EvN T K (tLstRg tr) g r (rgD a (b - a).toNat) r1 := fun rf Hs H σ s Q q => h rf Hs H σ s _ fun Hs1 H1 e s1 => by
  refine ⟨⟨by omega, by omega, by omega, by omega, by omega⟩, fun p hp => q p Hs1 _ e (s1.own (o := .lst _) hp True.intro (x := rl p _) rfl ⟨_, upd_same, DRs.rg a b⟩)⟩
end
end DL
/-! rules that the layer lacks -/
namespace SrtO
open PySem PyProof.Rows Srt
section
variable {prog : Program} {w : World} {A : Around} {E : Value → Shared → Prop} {s : Shared}
/-- sorted(x), x anything that is collected -/
theorem sorted_col {x : Value} {vs : List Value} {ltv : Value → Value → Bool} {Q : Value → Shared → Prop} (O : Swo ltv) (hz : vs.length ≤ sizeLine)
    (hc : ∀ (Q' : List Value → Shared → Prop), (∀ h' tk, (∀ b o, s.heap.get? b = some o → h'.get? b = some o) → Q' vs { s with heap := h', toks := tk }) → wpAny (model prog w) A.in1 (collect x) Q' E s)
    (hS : 2 ≤ vs.length → ∀ (h₁ : Heap) (tk : Nat) (a : Addr), h₁.get? a = some (seqObj "list" vs.toArray 0) → (∀ b o, s.heap.get? b = some o → b ≠ a ∧ h₁.get? b = some o) → SortableO prog w A.in1.in1 { s with heap := h₁, toks := tk } a vs ltv)
    (h : ∀ (out : List Value) (h0 h' : Heap) (tk : Nat), Srtd ltv out → Stb ltv out vs → (∀ b o, s.heap.get? b = some o → h0.get? b = some o) → (∀ b o, h0.get? b = some o → h'.get? b = some o) → (∃ n, h'.get? h0.objs.size = some (seqObj "list" out.toArray n)) → Q (.ref h0.objs.size) { s with heap := h', toks := tk }) :
    wpAny (model prog w) A (call (.builtin "sorted") [x]) Q E s := by
  refine Calls.call_function_entry kind_sorted plain_sorted entry_sorted (args_sorted1 _) ?_
  unfold Builtin.«sorted»
  refine wpAny_bind (m := checkCount "sorted" 1 1 _) (wpAny_pure ?_)
  refine wpAny_bind (hc _ fun h0 tk k0 => ?_)
  refine wpAny_bind (wpAny_newList ?_ hz)
  have hoL : (h0.push (seqObj "list" vs.toArray 0)).get? h0.objs.size = some (seqObj "list" vs.toArray 0) := Heap.get?_push_size _ rfl
  have keep : ∀ b o, s.heap.get? b = some o → b ≠ h0.objs.size ∧ (h0.push (seqObj "list" vs.toArray 0)).get? b = some o := fun b o q =>
    ⟨Nat.ne_of_lt (Heap.lt_size (k0 b o q)), Heap.get?_push_of_some _ (k0 b o q)⟩
  show wpAny _ _ _ _ _ { s with heap := h0.push (seqObj "list" vs.toArray 0), toks := tk }
  refine wpAny_bind (wpAny_holding (wpAny_call_entry slot_list_sort ⟨_, hoL, rfl⟩ entry_list_sort (list_sort_ord O hoL hz (fun h2 => hS h2 _ _ _ hoL keep) fun out hs hb => ⟨_, rfl, ?_⟩) (args_list_sort _)))
  refine wpAny_pure ⟨_, rfl, h out h0 _ _ hs hb k0 (fun b o q => ?_) (sortedHeap_at (vs := vs) (out := out.toArray) hoL)⟩
  have hne : b ≠ h0.objs.size := Nat.ne_of_lt (Heap.lt_size q)
  rw [sortedHeap_old hne (Nat.lt_of_lt_of_le (Heap.lt_size q) (by rw [Heap.size_push]; exact Nat.le_succ _))]
  exact Heap.get?_push_of_some _ q
end
end SrtO
namespace L2
open PySem PySem.Spec PyProof.Rows
/-- sorted(xs), xs a list or a tuple of ints -/
def rSortedX (K : PySem.W.Frag) : List V → Hp → VK → Prop := fun vs H Q => ∃ (a : Addr) (ns : List Int), vs = [V.ref a] ∧ (SqL K H a (ns.map V.int) ∨ SqT K H a (ns.map V.int)) ∧
  ∀ (ns' : List Int) (p : Addr), ns'.Perm ns → ns'.Pairwise (· ≤ ·) → H p = none → Q (.ref p) (upd H p (.lst (ns'.map V.int)))
section
variable {X : Cx}
/-- what is read as a sequence, in the heap -/
theorem Inv.sq {pins : List (Addr × Obj)} {σ : St} {H : Hp} {s : Shared} {a : Addr} {xs : List V} (I : Inv X pins σ H s) (h : SqL X.K H a xs ∨ SqT X.K H a xs) :
    ∃ (T : String) (its : List Value) (o : Obj) (n : Nat), (T = "list" ∨ T = "tuple") ∧ Vals xs its ∧ s.heap.get? a = some o ∧ o.cls = .type T ∧ o.data = .seq its.toArray n ∧ xs.length ≤ sizeLine := by
  rcases h with h | h
  · obtain ⟨its, r, hl, hz⟩ := I.list h
    obtain ⟨o, h1, h2, n, h3⟩ := hl.isList
    exact ⟨"list", its, o, n, Or.inl rfl, r, h1, h2, h3, hz⟩
  · obtain ⟨its, r, hl, hz⟩ := I.tuple h
    obtain ⟨o, h1, h2, n, h3⟩ := hl
    exact ⟨"tuple", its, o, n, Or.inr rfl, r, h1, h2, h3, hz⟩
theorem cr_sortedX : CallR X (.builtin "sorted") (rSortedX X.K) := by
  intro pins s σ H vs us Q I r h
  obtain ⟨a, ns, rfl, hs, q⟩ := h
  obtain ⟨T, its, o, n, hT, rv, ho, hc, hd, hz⟩ := I.sq hs
  rw [Vals.ref1 r]
  have hi := rv.ints
  refine SrtO.sorted_col SrtO.swo_int (vs := its) (by rw [← rv.length]; exact hz) (fun Q' hq => ?_) (fun h2 h₁ tk a' _ _ => SrtO.ints_sortable hi h2) fun out h0 h' tk h1 h2 k0 k1 hat => ?_
  · refine wpAny_collect_seq a hT ho hc hd (fun h' hk => ?_) (by rw [List.size_toArray, ← rv.length]; exact hz)
    have := hq h' s.toks hk
    rw [List.toList_toArray]
    exact this
  · obtain ⟨j1, j2, j3⟩ := SrtO.ints_out hi h1 h2
    obtain ⟨ep, he'⟩ := hat
    have hlen : ((out.map SrtO.iv).map V.int).length ≤ sizeLine := by
      rw [List.length_map, j2.length_eq]
      rw [List.length_map] at hz
      exact hz
    have I1 : Inv X pins σ H { s with heap := h0, toks := tk } := I.kept k0
    exact ⟨.ref _, upd H h0.objs.size (.lst ((out.map SrtO.iv).map V.int)), I1.laid (t' := tk) k1 (Nat.le_refl _) ⟨hlen, out, ep, vals_of_ints j1, he'⟩, rfl, q _ _ j2 j3 (I1.hok.fresh (Nat.le_refl _))⟩
end
end L2
namespace DL
open PySem PySem.Spec PyProof.Rows L2
section
variable {T : Tb} {K : PySem.W.Frag} {E : XK} {g : G} {r r1 r2 : Rs} {ta tb te : TE} {x y d : D} {ds es : List D} {tas : TA}
def srt (ns : List Int) : List Int := ns.mergeSort (fun a b => decide (a ≤ b))
theorem srt_perm (ns : List Int) : (srt ns).Perm ns := List.mergeSort_perm ns _
theorem srt_sorted (ns : List Int) : (srt ns).Pairwise (· ≤ ·) := by
  have h := List.pairwise_mergeSort (le := fun a b : Int => decide (a ≤ b)) (fun a b c h1 h2 => by simp at *; omega) (fun a b => by simp; omega) ns
  exact h.imp fun h => by simpa using h
theorem srt_uniq {ns ms : List Int} (p : ms.Perm ns) (s : ms.Pairwise (· ≤ ·)) : ms = srt ns :=
  List.Perm.eq_of_pairwise (le := (· ≤ ·)) (fun a b _ _ h1 h2 => Int.le_antisymm h1 h2) s (srt_sorted ns) (p.trans (srt_perm ns).symm)
theorem en_sorted {ns : List Int} (h : EvA T K tas g r [x] r1) (hv : Vs x r1 (ns.map D.int)) : EvN T K (tCB (rSortedX K) tas) g r ((srt ns).map D.int) r1 := fun rf Hs H σ s Q q => h rf Hs H σ s _ fun vs Hs1 H1 e s1 rvs => by
  obtain ⟨v, rfl, rv⟩ := rvs.one
  obtain ⟨a, xs, rfl, h1, h2⟩ := hv.at s1 rv
  have e2 := DRs.ints_inv h2
  subst e2
  refine ⟨a, ns, rfl, h1, fun ns' p hp hs hn => ?_⟩
  have e3 := srt_uniq hp hs
  subst e3
  exact q p Hs1 _ e (s1.own (o := .lst _) hn True.intro (x := rl p _) rfl ⟨_, upd_same, DRs.ints _⟩)
end
end DL
namespace DL
open PySem PySem.Spec PyProof.Rows L2 TL
abbrev rowD (l : List Int) : D := .tup (l.map D.int)
section
variable {T : Tb} {K : PySem.W.Frag} {E : XK} {g g' : G} {r r' r1 r2 r3 : Rs} {ta tb tc te : TE} {t : TT} {x y z d : D} {ds es xs : List D} {tas : TA} {O O' : Out} {s1 s2 ts tu : TS} {i j k : Nat} {tg : TG}
/-! ### items of rows -/
theorem atI_nat' {α : Type} {xs : List α} {i : Int} {v : α} (h0 : 0 ≤ i) (h1 : i < xs.length) (h : xs[i.toNat]? = some v) : atI xs i = some v := atI_of h0 h
theorem od_ixRow {l : List Int} {i : Int} (h0 : 0 ≤ i) (h1 : i < l.length) : OpD T K (rIxT K) (rowD l) (.int i) g r (.int (l.getD i.toNat 0)) r :=
  od_ixT (atI_of h0 (by
    have h : i.toNat < l.length := by omega
    rw [List.getElem?_map, List.getElem?_eq_getElem h]
    simp [List.getD_eq_getElem?_getD, List.getElem?_eq_getElem h]))
theorem od_ixTup {l : List D} {i : Int} (h0 : 0 ≤ i) (h1 : i < l.length) : OpD T K (rIxT K) (.tup l) (.int i) g r (l.getD i.toNat .non) r :=
  od_ixT (atI_of h0 (by
    have h : i.toNat < l.length := by omega
    rw [List.getElem?_eq_getElem h]
    simp [List.getD_eq_getElem?_getD, List.getElem?_eq_getElem h]))
theorem od_ixLI {l : List Int} {i : Int} (v : Vl x r (l.map D.int)) (h0 : 0 ≤ i) (h1 : i < l.length) : OpD T K (rIxL K) x (.int i) g r (.int (l.getD i.toNat 0)) r :=
  od_ixL v (atI_of h0 (by
    have h : i.toNat < l.length := by omega
    rw [List.getElem?_map, List.getElem?_eq_getElem h]
    simp [List.getD_eq_getElem?_getD, List.getElem?_eq_getElem h]))
theorem od_ixLD {l : List D} {i : Int} (v : Vl x r l) (h0 : 0 ≤ i) (h1 : i < l.length) : OpD T K (rIxL K) x (.int i) g r (l.getD i.toNat .non) r :=
  od_ixL v (atI_of h0 (by
    have h : i.toNat < l.length := by omega
    rw [List.getElem?_eq_getElem h]
    simp [List.getD_eq_getElem?_getD, List.getElem?_eq_getElem h]))
/-- a sign -/
abbrev sgn (c : Nat) : D := .str ⟨#[c]⟩
theorem od_ixStr {s : Str} {i : Int} (hl : s.length ≤ 100000) (h0 : 0 ≤ i) (h1 : i < s.cps.toList.length) : OpD T K rIxS (.str s) (.int i) g r (sgn (s.cps.toList.getD i.toNat 0)) r :=
  od_ixS hl (atI_of h0 (by
    have h : i.toNat < s.cps.toList.length := by omega
    rw [List.getElem?_eq_getElem h]
    simp [List.getD_eq_getElem?_getD, List.getElem?_eq_getElem h]))
/-! ### built-ins -/
theorem ca_abs {n : Int} : CaD T K (fun xs H Q => ∃ i, xs = [V.int i] ∧ Q (.int (if i < 0 then -i else i)) H) [.int n] g r (.int (if n < 0 then -n else n)) r := fun rf Hs H σ us s ru Q q => by
  obtain ⟨v, rfl, rv⟩ := ru.one
  cases rv
  exact ⟨n, rfl, q _ _ _ (Ext.refl _) s (.int _)⟩
theorem ca_intI {n : Int} : CaD T K (fun xs H Q => (∃ i, xs = [V.int i] ∧ Q (.int i) H) ∨ ∃ k, xs = [V.bl k] ∧ Q (.int (if k then 1 else 0)) H) [.int n] g r (.int n) r := fun rf Hs H σ us s ru Q q => by
  obtain ⟨v, rfl, rv⟩ := ru.one
  cases rv
  exact Or.inl ⟨n, rfl, q _ _ _ (Ext.refl _) s (.int _)⟩
theorem ca_intB {b : Bool} : CaD T K (fun xs H Q => (∃ i, xs = [V.int i] ∧ Q (.int i) H) ∨ ∃ k, xs = [V.bl k] ∧ Q (.int (if k then 1 else 0)) H) [.bl b] g r (.int (if b then 1 else 0)) r := fun rf Hs H σ us s ru Q q => by
  obtain ⟨v, rfl, rv⟩ := ru.one
  cases rv
  exact Or.inr ⟨b, rfl, q _ _ _ (Ext.refl _) s (.int _)⟩
theorem ca_sum {ns : List Int} (h : Vl x r (ns.map D.int)) : CaD T K (rSum K) [x] g r (.int ns.sum) r := fun rf Hs H σ us s ru Q q => by
  obtain ⟨v, rfl, rv⟩ := ru.one
  obtain ⟨a, xs, rfl, h1, h2⟩ := h.at s rv
  have e := DRs.ints_inv h2
  subst e
  exact ⟨a, ns, rfl, Evl.sq_of h1, q _ _ _ (Ext.refl _) s (.int _)⟩
theorem en_listOf (h : EvA T K tas g r [x] r1) (hv : Vs x r1 ds) : EvN T K (tCB (fun xs H Q => ∃ p ys, xs = [.ref p] ∧ (SqL K H p ys ∨ SqT K H p ys) ∧ ∀ l, H l = none → Q (.ref l) (upd H l (.lst ys))) tas) g r ds r1 := fun rf Hs H σ s Q q => h rf Hs H σ s _ fun vs Hs1 H1 e s1 rvs => by
  obtain ⟨v, rfl, rv⟩ := rvs.one
  obtain ⟨a, xs, rfl, h1, h2⟩ := hv.at s1 rv
  exact ⟨a, xs, rfl, h1, fun p hp => q p Hs1 _ e (s1.own (o := .lst xs) hp True.intro (x := rl p ds) rfl ⟨xs, upd_same, h2⟩)⟩
theorem joinL_signs : ∀ cs : List Nat, joinL [] (cs.map fun c => [c]) = cs
  | [] => rfl
  | [c] => rfl
  | c :: d :: r => by
    have ih := joinL_signs (d :: r)
    show [c] ++ ([] ++ joinL [] ((d :: r).map fun c => [c])) = c :: d :: r
    rw [ih]
    rfl
theorem str_ext {a b : Str} (h : a.cps.toList = b.cps.toList) : a = b := by
  cases a
  cases b
  congr
  exact Array.toList_inj.mp h
theorem join_signs (cs : List Nat) : Txt.join ⟨#[]⟩ (cs.map fun c => (⟨#[c]⟩ : Str)) = ⟨cs.toArray⟩ := by
  refine str_ext ?_
  rw [join_eq]
  have h : tl (Str.join ⟨#[]⟩ (cs.map fun c => (⟨#[c]⟩ : Str))) = joinL [] ((cs.map fun c => (⟨#[c]⟩ : Str)).map tl) := tl_join _ _
  have e : (cs.map fun c => (⟨#[c]⟩ : Str)).map tl = cs.map fun c => [c] := by
    rw [List.map_map]
    rfl
  rw [e, joinL_signs] at h
  first
    | exact h
    | simpa using h
/-- "".join of signs -/
theorem ev_joinS {cs : List Nat} (h : Ev T K te g r x r1) (hv : Vs x r1 (cs.map sgn)) (hl : cs.length ≤ 100000) : Ev T K (tM1 (fun x xs H Q => ∃ a p, ∃ ys : List Str, x = .str a ∧ xs = [.ref p] ∧ (SqL K H p (ys.map V.str) ∨ SqT K H p (ys.map V.str)) ∧
      (ys.map (·.length)).sum + ys.length * a.length ≤ 16777216 ∧ Q (.str (Txt.join a ys)) H) (tC (.str ⟨#[]⟩)) te) g r (.str ⟨cs.toArray⟩) r1 := fun rf Hs H σ s Q q => by
  refine ⟨⟨_, rfl⟩, h rf Hs H σ s _ fun v Hs1 H1 e s1 rv => ?_⟩
  obtain ⟨a, xs, rfl, h1, h2⟩ := hv.at s1 rv
  have e1 : cs.map sgn = (cs.map fun c => (⟨#[c]⟩ : Str)).map D.str := by
    rw [List.map_map]
    rfl
  rw [e1] at h2
  have e2 := DRs.strs_inv h2
  subst e2
  refine ⟨⟨#[]⟩, a, _, rfl, rfl, h1, ?_, ?_⟩
  · have e3 : ((cs.map fun c => (⟨#[c]⟩ : Str)).map (·.length)).sum = cs.length := by
      clear h2 h1 e1 hv hl q
      induction cs with
      | nil => rfl
      | cons c r ih =>
        rw [List.map_cons, List.map_cons, List.sum_cons, ih]
        show 1 + r.length = r.length + 1
        omega
    rw [e3]
    have e4 : (⟨#[]⟩ : Str).length = 0 := rfl
    rw [e4]
    omega
  · rw [join_signs]
    exact q _ _ _ e s1 (.str _)
/-- xs.index(n), ints, n there -/
theorem ev_indexL {ns : List Int} {n : Int} (h0 : Ev T K ta g r x r1) (h : Ev T K te g r1 (.int n) r2) (hv1 : Vl x r1 (ns.map D.int)) (hv : Vl x r2 (ns.map D.int)) (hn : n ∈ ns) : Ev T K (tBM K "list" (rIndex K) ta (tCons te tNil)) g r (.int ((ns.idxOf n : Nat) : Int)) r2 := fun rf Hs H σ s Q q =>
  h0 rf Hs H σ s _ fun v Hs1 H1 e1 s1 rv => by
    obtain ⟨a, xs, rfl, a1, a2⟩ := hv1.at s1 rv
    refine ⟨Or.inl ⟨rfl, xs, Evl.sq_of a1⟩, h rf Hs1 H1 σ s1 _ fun w Hs2 H2 e2 s2 rw' => ?_⟩
    cases rw'
    obtain ⟨b, ys, eb, b1, b2⟩ := hv.at s2 (DR.mono e2 x rv)
    cases eb
    have ey := DRs.ints_inv b2
    subst ey
    have hj : ns.idxOf n < ns.length := List.idxOf_lt_length_iff.mpr hn
    refine ⟨a, _, .int n, ns.idxOf n, .int n, rfl, rfl, Evl.sq_of b1, rfl, flats_int b2, ?_, by simp [eqV], fun m z' hm hz => ?_, q _ _ _ (e1.trans e2) s2 (.int _)⟩
    · rw [List.getElem?_map, List.getElem?_eq_getElem hj, List.getElem_idxOf hj]
      rfl
    · rw [List.getElem?_map] at hz
      cases hq : ns[m]? with
      | none => rw [hq] at hz; cases hz
      | some k =>
        rw [hq] at hz
        cases hz
        have hne : k ≠ n := fun e => by
          subst e
          have h1 := (List.getElem?_eq_some_iff.mp hq).1
          have h2 : ns[m] = k := (List.getElem?_eq_some_iff.mp hq).2
          have := List.not_of_lt_findIdx (p := fun x => x == k) (xs := ns) (i := m) hm
          simp [h2] at this
        simpa [eqV] using hne
/-- xs.remove(n), ints, n there -/
theorem ev_remove {p : Addr} {ns : List Int} {n : Int} {ds0 : List D} (j : Nat) (h0 : Ev T K ta g r (.ref p) r1) (hj0 : r1[j]? = some (rl p ds0)) (h : Ev T K te g r1 (.int n) r2) (hj : r2[j]? = some (rl p (ns.map D.int))) (hn : n ∈ ns) :
    Ev T K (tBM K "list" rRemI ta (tCons te tNil)) g r .non (r2.set j (rl p ((ns.erase n).map D.int))) := fun rf Hs H σ s Q q =>
  h0 rf Hs H σ s _ fun v Hs1 H1 e1 s1 rv => by
    cases rv
    refine ⟨ty_own s1 hj0, h rf Hs1 H1 σ s1 _ fun v Hs2 H2 e2 s2 rv => ?_⟩
    cases rv
    obtain ⟨ys, h1, h2⟩ := s2.rs _ (List.mem_append_left _ (List.mem_of_getElem? hj))
    have ey := DRs.ints_inv h2
    subst ey
    have hlt : ns.idxOf n < ns.length := List.idxOf_lt_length_iff.mpr hn
    refine ⟨p, ns, n, ns.idxOf n, rfl, rfl, h1, ?_, fun m hm hq => ?_, ?_⟩
    · rw [List.getElem?_eq_getElem hlt, List.getElem_idxOf hlt]
    · have h2 : ns[m]'((List.getElem?_eq_some_iff.mp hq).1) = n := (List.getElem?_eq_some_iff.mp hq).2
      have := List.not_of_lt_findIdx (p := fun x => x == n) (xs := ns) (i := m) hm
      simp [h2] at this
    · rw [← List.erase_eq_eraseIdx_of_idxOf (by rfl)]
      exact q _ _ _ (e1.trans e2) (s2.turn hj (DRs.ints _)) .non
/-! ### zip -/
theorem steps_zipT {Hs : Hp} {a b : Addr} {xs ys : List V} (h1 : SqT K Hs a xs) (h2 : SqT K Hs b ys) (r1 : DRs K Hs xs ds) (r2 : DRs K Hs ys es) : Steps T K Hs (RZ.ItzT K a b) (ds.zipWith (fun p q => D.tup [p, q]) es) := fun i Hs' H' e1 e2 => by
  have k1 : SqT K H' a xs := e2.st (e1.st h1)
  have k2 : SqT K H' b ys := e2.st (e1.st h2)
  refine ⟨fun hl => ⟨xs, ys, k1, k2, ?_⟩, fun d hd => ?_⟩
  · rw [List.length_zipWith] at hl
    rw [r1.length, r2.length]
    omega
  · rw [List.getElem?_zipWith] at hd
    cases q1 : ds[i]? with
    | none => rw [q1] at hd; cases hd
    | some d1 =>
      cases q2 : es[i]? with
      | none => rw [q1, q2] at hd; cases hd
      | some d2 =>
        rw [q1, q2] at hd
        cases hd
        obtain ⟨v1, a1, a2⟩ := r1.get q1
        obtain ⟨v2, b1, b2⟩ := r2.get q2
        refine ⟨⟨xs, ys, v1, v2, k1, k2, a1, b1⟩, fun v H2 y => ?_⟩
        obtain ⟨p, u1, u2, rfl, hp, rfl, y1, y2⟩ := y
        have z1 := y1 xs k1
        rw [a1] at z1
        cases z1
        have z2 := y2 ys k2
        rw [b1] at z2
        cases z2
        have hp0 : Hs' p = none := e2.back hp
        have e3 : Ext T Hs' (upd Hs' p (.tup [v1, v2])) := Ext.new hp0
        exact ⟨_, e3, .tup (Evl.st_of upd_same) (.cons (DR.mono (e1.trans e3) _ a2) (.cons (DR.mono (e1.trans e3) _ b2) .nil)), fun σ g r s => (s.alloc (o := .tup [v1, v2]) hp True.intro).1⟩
theorem ei_zipT (h : EvA T K tas g r [.tup ds, .tup es] r1) : EvI T K (RZ.iZipA K tas) g r (ds.zipWith (fun p q => D.tup [p, q]) es) r1 := fun rf Hs H σ s R q => h rf Hs H σ s _ fun vs Hs1 H1 e s1 rvs => by
  obtain ⟨v, w, rfl, rv, rw'⟩ := rvs.two
  obtain ⟨a, xs, rfl, a1, a2⟩ := rv.tupI
  obtain ⟨b, ys, rfl, b1, b2⟩ := rw'.tupI
  exact ⟨a, b, xs, ys, rfl, Or.inr ⟨s1.ex.st a1, s1.ex.st b1, q _ _ _ e s1 (steps_zipT a1 b1 a2 b2)⟩⟩
end
end DL
/-! generator expressions: over a text, a tuple, a list; the element read by a small calculus -/
namespace GX
open PySem PySem.Spec PyProof.Rows L2 GxR
/-- what an element of a generator expression reads: slots, heap, item; gives -/
abbrev ER := L2.St → Hp → V → V → Prop
section
variable (X : Cx)
structure GSt (σ : L2.St) (H : Hp) (cenv : Env) (x : Str) (xv : V) (s : Shared) : Prop where
  ok : X.Ok
  kind : cenv.scope.kind = .function
  gl : cenv.globals = mainGlobals
  loc : cenv.scope.names.lookup x = some .local
  ns : ∃ m u, s.heap.Ns cenv.locals m ∧ m x = some u ∧ RelV xv u
  cp : ∀ (i : Nat) y v, X.N[i]? = some y → σ[i]? = some (some v) → cenv.scope.names.lookup y = some .free → ∃ c u, cenv.cells.lookup y = some c ∧ s.heap.IsCell c (some u) ∧ RelV v u
  bk : ∀ b o, X.base.get? b = some o → s.heap.get? b = some o
  fz : ∀ a o u, H a = some (.frz o u) → s.heap.get? a = some o
  tp : ∀ a xs, SqT X.K H a xs → ∃ its : List Value, Vals xs its ∧ IsTup s.heap a its.toArray ∧ xs.length ≤ sizeLine
def GP (x : Str) (sc : Scope) (e : Expr) (el : ER) : Prop := ∀ (σ : L2.St) (H : Hp) (xv v : V), el σ H xv v → ∀ (cenv : Env) (A' : Around) (E' : Value → Shared → Prop) (s : Shared), A'.handled = none → cenv.scope = sc → GSt X σ H cenv x xv s →
  ∀ Q : Value → Shared → Prop, (∀ u s', RelV v u → Keeps s s' → Q u s') → wpAny (model X.prog X.w) A' (eval e cenv) Q E' s
end
section
variable {X : Cx} {σ : L2.St} {H : Hp} {cenv : Env} {x : Str} {xv : V} {s s' : Shared} {sc : Scope}
theorem _root_.PySem.Keeps.tr {s1 s2 s3 : Shared} (a : Keeps s1 s2) (b : Keeps s2 s3) : Keeps s1 s3 := by
  obtain ⟨h1, t1, rfl, k1⟩ := a
  obtain ⟨h2, t2, rfl, k2⟩ := b
  exact ⟨h2, t2, rfl, fun b o e => k2 b o (k1 b o e)⟩
theorem GSt.keeps (g : GSt X σ H cenv x xv s) (k : Keeps s s') : GSt X σ H cenv x xv s' := by
  obtain ⟨h1, t1, rfl, k1⟩ := k
  refine ⟨g.ok, g.kind, g.gl, g.loc, ?_, fun i y v a b c => ?_, fun b o e => k1 b o (g.bk b o e), fun a o u e => k1 a o (g.fz a o u e), fun a xs h => ?_⟩
  · obtain ⟨m, u, a, b, c⟩ := g.ns
    exact ⟨m, u, a.keeps k1, b, c⟩
  · obtain ⟨c, u, h1, ⟨o, h2, h3⟩, h4⟩ := g.cp i y v a b c
    exact ⟨c, u, h1, ⟨o, k1 _ _ h2, h3⟩, h4⟩
  · obtain ⟨its, h1, ⟨o, h2, h3⟩, h4⟩ := g.tp a xs h
    exact ⟨its, h1, ⟨o, k1 _ _ h2, h3⟩, h4⟩
def elItem : ER := fun _ _ xv v => v = xv
def elVar (i : Nat) : ER := fun σ _ _ v => σ[i]? = some (some v)
def elC (c : V) : ER := fun _ _ _ v => v = c
def elAdd (a b : ER) : ER := fun σ H xv v => ∃ m n, a σ H xv (.int m) ∧ b σ H xv (.int n) ∧ v = .int (m + n)
def elSub (a b : ER) : ER := fun σ H xv v => ∃ m n, a σ H xv (.int m) ∧ b σ H xv (.int n) ∧ v = .int (m - n)
def elIxT (K : PySem.W.Frag) (a b : ER) : ER := fun σ H xv v => ∃ p xs i, a σ H xv (.ref p) ∧ b σ H xv (.int i) ∧ SqT K H p xs ∧ atI xs i = some v
/-- row.index(n) of a tuple of ints -/
def elIdxT (K : PySem.W.Frag) (a b : ER) : ER := fun σ H xv v => ∃ (p : Addr) (o : Obj) (ns : List Int) (n : Int), a σ H xv (.ref p) ∧ b σ H xv (.int n) ∧ H p = some (.frz o (.tup (ns.map V.int))) ∧ o.dict = none ∧ n ∈ ns ∧ True ∧ v = .int ((ns.idxOf n : Nat) : Int)
/-- text.index(sign) -/
def elIdxS (a b : ER) : ER := fun σ H xv v => ∃ z y i rest, a σ H xv (.str z) ∧ b σ H xv (.str y) ∧ Builtin.Str.occurrences z y 0 z.length 1 = i :: rest ∧ v = .int ((i : Nat) : Int)
def elNotInS (a b : ER) : ER := fun σ H xv v => ∃ c z, a σ H xv (.str ⟨#[c]⟩) ∧ b σ H xv (.str z) ∧ v = .bl (!decide (c ∈ z.cps.toList))
theorem gp_item {pos : Pos} (hd : (x == ("__debug__" : Str)) = false := by decide) : GP X x sc (.Name x pos) elItem := fun σ H xv v e cenv A' E' s hA hs g Q q => by
  subst e
  obtain ⟨m, u, a, b, c⟩ := g.ns
  exact wpAny_Name (wpAny_loadName_local g.kind g.loc a b (q u s c (keeps_refl s))) hd
theorem gp_var (i : Nat) {y : Str} {pos : Pos} (hN : X.N[i]? = some y) (hf : sc.names.lookup y = some .free) (hd : (y == ("__debug__" : Str)) = false := by decide) (hcd : (y == ("__classdict__" : Str)) = false := by decide) : GP X x sc (.Name y pos) (elVar i) := fun σ H xv v e cenv A' E' s hA hs g Q q => by
  have hf' : cenv.scope.names.lookup y = some .free := by rw [hs]; exact hf
  obtain ⟨c, u, h1, h2, h3⟩ := g.cp i y v hN e hf'
  exact wpAny_Name (wpAny_loadName_free g.kind hf' h1 h2 (q u s h3 (keeps_refl s)) hcd) hd
theorem gp_glob {y : Str} {u : Value} {c : V} {pos : Pos} (hk : (Env.kindOf { (default : Env) with scope := sc } y) = some .globalImplicit) (hm : X.mg y = some u) (r : RelV c u) (hd : (y == ("__debug__" : Str)) = false := by decide) : GP X x sc (.Name y pos) (elC c) := fun σ H xv v e cenv A' E' s hA hs g Q q => by
  subst e
  have hk' : cenv.kindOf y = some .globalImplicit := by
    have e : cenv.kindOf y = Env.kindOf { (default : Env) with scope := sc } y := by unfold Env.kindOf; rw [hs]
    rw [e]
    exact hk
  exact Calls.Name_function_global g.kind hk' (Calls.loadGlobal_global (by rw [g.gl]; exact g.ok.mod.glob.keeps g.bk) hm (q u s r (keeps_refl s))) hd
theorem gp_int {n : Int} {j : Nat} {pos : Pos} : GP X x sc (.Constant (.int n) j pos) (elC (.int n)) := fun σ H xv v e cenv A' E' s hA hs g Q q => by
  subst e
  exact wpAny_Constant_int (q _ _ ⟨_, rfl⟩ (keeps_tok s _))
theorem gp_add {a b : Expr} {ea eb : ER} {pos : Pos} (ha : GP X x sc a ea) (hb : GP X x sc b eb) : GP X x sc (.BinOp a .Add b pos) (elAdd ea eb) := fun σ H xv v e cenv A' E' s hA hs g Q q => by
  obtain ⟨m, n, h1, h2, rfl⟩ := e
  refine wpAny_BinOp (ha σ H xv _ h1 cenv A' E' s hA hs g _ fun u s1 r1 k1 => hb σ H xv _ h2 cenv A' E' s1 hA hs (g.keeps k1) _ fun w s2 r2 k2 => ?_)
  obtain ⟨t, rfl⟩ := r1
  obtain ⟨t', rfl⟩ := r2
  exact add_int (q _ _ ⟨_, rfl⟩ (PySem.Keeps.tr (PySem.Keeps.tr k1 k2) (keeps_tok _ _)))
theorem gp_sub {a b : Expr} {ea eb : ER} {pos : Pos} (ha : GP X x sc a ea) (hb : GP X x sc b eb) : GP X x sc (.BinOp a .Sub b pos) (elSub ea eb) := fun σ H xv v e cenv A' E' s hA hs g Q q => by
  obtain ⟨m, n, h1, h2, rfl⟩ := e
  refine wpAny_BinOp (ha σ H xv _ h1 cenv A' E' s hA hs g _ fun u s1 r1 k1 => hb σ H xv _ h2 cenv A' E' s1 hA hs (g.keeps k1) _ fun w s2 r2 k2 => ?_)
  obtain ⟨t, rfl⟩ := r1
  obtain ⟨t', rfl⟩ := r2
  exact sub_int (q _ _ ⟨_, rfl⟩ (PySem.Keeps.tr (PySem.Keeps.tr k1 k2) (keeps_tok _ _)))
theorem gp_ixT {a b : Expr} {ea eb : ER} {pos : Pos} (ha : GP X x sc a ea) (hb : GP X x sc b eb) (hp : PlainIx b) : GP X x sc (.Subscript a b pos) (elIxT X.K ea eb) := fun σ H xv v e cenv A' E' s hA hs g Q q => by
  obtain ⟨p, xs, i, h1, h2, h3, h4⟩ := e
  refine Subscript_ (ha σ H xv _ h1 cenv A' E' s hA hs g _ fun u s1 r1 k1 => hb σ H xv _ h2 cenv A' E' s1 hA hs (g.keeps k1) _ fun w s2 r2 k2 => ?_)
  cases r1
  obtain ⟨t, rfl⟩ := r2
  obtain ⟨its, r, pl, hz⟩ := (g.keeps (PySem.Keeps.tr k1 k2)).tp p xs h3
  obtain ⟨j, z1, z2, z3, z4, z5⟩ := atI_get h4
  obtain ⟨w, ew, rw'⟩ := r.get z2
  have hl := r.length
  have hn := line63
  exact subscriptTail_builtinR (x := w) pl.typeIs slot_tuple_getitem.lookup
    (getItem_tuple (j := j) (Q := fun r s' => r = w ∧ Q r s') pl (by omega) (by omega) (by rw [List.size_toArray, ← hl]; exact z1) (by simpa using ew) ⟨rfl, q _ _ rw' (PySem.Keeps.tr k1 k2)⟩) (hp _ _)
/-- row.index(n), row a tuple whose object has no dict -/
theorem gp_idxT {o e : Expr} {eo ee : ER} {apos cpos : Pos} (ho : GP X x sc o eo) (he : GP X x sc e ee)
    (hbase : ∀ env : Env, attributeBase o "index" env (eval o env) = eval o env)
    (hfew : ∀ env : Env, ((backTo cpos (starEach [e] env)).all (fun x => !x.1) && (backToKw cpos (keywordEach [] env)).all (fun x => x.1.isSome)
      && decide (([e] : List Expr).length + ([] : List Keyword).length + (if ([] : List Keyword).isEmpty then 0 else 1) < 30)) = true)
    (hline : (apos.endLine == cpos.line) = true) (hs1 : ∀ env : Env, starEach [e] env = (false, eval e env) :: starEach [] env) (hplain : ∀ env : Env, (backTo cpos (starEach [] env)).any (·.1) = false) (hnil : ∀ env : Env, backTo cpos (starEach [] env) = []) :
    GP X x sc (.Call (.Attribute o "index" apos) [e] [] cpos) (elIdxT X.K eo ee) := fun σ H xv v e' cenv A' E' s hA hs g Q q => by
  obtain ⟨p, ob, ns, n, h1, h2, h3, h4, h5, h6, h7⟩ := e'
  refine wpAny_Call_method_late (hbase cenv) (hfew cenv) hline rfl (ho σ H xv _ h1 cenv A' E' s hA hs g _ fun u s1 r1 k1 => ?_)
  cases r1
  have g1 := g.keeps k1
  obtain ⟨its, rv, ht, hz⟩ := g1.tp p _ (Or.inl (Or.inr ⟨_, h3⟩))
  refine ⟨"tuple", "tuple.index", PySem.F.plainAttrs_tuple, PySem.F.slot_tuple_index, PySem.F.type_tuple_index, ht.typeIs, (fun a e => by cases e; exact ⟨ob, g1.fz _ _ _ h3, h4⟩), ?_⟩
  rw [hs1 cenv]
  refine Calls.callWith_builtin (by show (false || (backTo cpos (starEach [] cenv)).any (·.1)) = false; rw [hplain] <;> rfl) (Calls.evalArgs_plain ?_)
  refine Calls.spliced_cons (he σ H xv _ h2 cenv A' E' s1 hA hs g1 _ fun w s2 r2 k2 => ?_)
  obtain ⟨t, rfl⟩ := r2
  have hn : wpAny (model X.prog X.w) A' (spliced (backTo cpos (starEach [] cenv))) (fun vs s' => wpAny (model X.prog X.w) A' (call (.builtin "tuple.index") ([.ref p] ++ (Value.int n t :: vs))) Q E' s') E' s2 := by
    rw [hnil cenv]
    refine Calls.spliced_nil ?_
    have g2 := g1.keeps k2
    obtain ⟨its2, rv2, ht2, hz2⟩ := g2.tp p _ (Or.inl (Or.inr ⟨_, h3⟩))
    have hi := rv2.ints
    refine SeqAt.call_tuple_index (ks := ns) (k := n) (vs := its2) ht2 ⟨?_, fun j hj1 hj2 => ?_⟩ h5 (by subst h7; exact q _ _ ⟨_, rfl⟩ (PySem.Keeps.tr (PySem.Keeps.tr k1 k2) (keeps_tok _ _)))
    · rw [← rv2.length, List.length_map]
    · obtain ⟨w, hw, t', hw'⟩ := rv2.get (i := j) (x := .int ns[j]) (by simp [hj2])
      have e := (List.getElem?_eq_some_iff.mp hw).2
      rw [e, hw']
      have := SeqAt.EqAt.int_int (A := A'.in1) (s := s2) ns[j] t' n t
      have e2 : (ns[j] == n) = decide (ns[j] = n) := by
        by_cases z : ns[j] = n <;> simp [z]
      rw [e2] at this
      exact this
  exact hn
/-- text.index(sign) -/
theorem gp_idxS {o e : Expr} {eo ee : ER} {apos cpos : Pos} (ho : GP X x sc o eo) (he : GP X x sc e ee)
    (hbase : ∀ env : Env, attributeBase o "index" env (eval o env) = eval o env)
    (hfew : ∀ env : Env, ((backTo cpos (starEach [e] env)).all (fun x => !x.1) && (backToKw cpos (keywordEach [] env)).all (fun x => x.1.isSome)
      && decide (([e] : List Expr).length + ([] : List Keyword).length + (if ([] : List Keyword).isEmpty then 0 else 1) < 30)) = true)
    (hline : (apos.endLine == cpos.line) = true) (hs1 : ∀ env : Env, starEach [e] env = (false, eval e env) :: starEach [] env) (hplain : ∀ env : Env, (backTo cpos (starEach [] env)).any (·.1) = false) (hnil : ∀ env : Env, backTo cpos (starEach [] env) = []) :
    GP X x sc (.Call (.Attribute o "index" apos) [e] [] cpos) (elIdxS eo ee) := fun σ H xv v e' cenv A' E' s hA hs g Q q => by
  obtain ⟨z, y, i, rest, h1, h2, h3, h4⟩ := e'
  refine wpAny_Call_method_late (hbase cenv) (hfew cenv) hline rfl (ho σ H xv _ h1 cenv A' E' s hA hs g _ fun u s1 r1 k1 => ?_)
  obtain ⟨t1, rfl⟩ := r1
  have g1 := g.keeps k1
  refine ⟨"str", "str.index", PySem.F.plainAttrs_str, PySem.F.slot_str_index, PySem.F.type_str_index, typeIs_str _ _ _, (fun _ e => nomatch e), ?_⟩
  rw [hs1 cenv]
  refine Calls.callWith_builtin (by show (false || (backTo cpos (starEach [] cenv)).any (·.1)) = false; rw [hplain] <;> rfl) (Calls.evalArgs_plain ?_)
  refine Calls.spliced_cons (he σ H xv _ h2 cenv A' E' s1 hA hs g1 _ fun w s2 r2 k2 => ?_)
  obtain ⟨t, rfl⟩ := r2
  have hn : wpAny (model X.prog X.w) A' (spliced (backTo cpos (starEach [] cenv))) (fun vs s' => wpAny (model X.prog X.w) A' (call (.builtin "str.index") ([.str z t1] ++ (Value.str y t :: vs))) Q E' s') E' s2 := by
    rw [hnil cenv]
    refine Calls.spliced_nil ?_
    exact PySem.SC.index h3 (by subst h4; exact q _ _ ⟨_, rfl⟩ (PySem.Keeps.tr (PySem.Keeps.tr k1 k2) (keeps_tok _ _)))
  exact hn
/-- sign not in text -/
theorem gp_notInS {a b : Expr} {ea eb : ER} {pos : Pos} (ha : GP X x sc a ea) (hb : GP X x sc b eb) (hm : behindInMarks .NotIn b = false) : GP X x sc (.Compare a [.NotIn] [b] pos) (elNotInS ea eb) := fun σ H xv v e cenv A' E' s hA hs g Q q => by
  obtain ⟨c, z, h1, h2, rfl⟩ := e
  refine wpAny_Compare1 (ha σ H xv _ h1 cenv A' E' s hA hs g _ fun u s1 r1 k1 => hb σ H xv _ h2 cenv A' E' s1 hA hs (g.keeps k1) _ fun w s2 r2 k2 => ?_) hm
  obtain ⟨t, rfl⟩ := r1
  obtain ⟨t', rfl⟩ := r2
  refine PyProof.Rows.notIn_str (q _ _ ?_ (PySem.Keeps.tr k1 k2))
  exact congrArg Value.bool (congrArg Bool.not (PySem.StrLaws.found_one z c))
/-! ### what is walked -/
def IW (X : Cx) (iw : V → Hp → List V → Prop) : Prop := ∀ (pins : List (Addr × Obj)) (σ : L2.St) (H : Hp) (s : Shared) (v : V) (u : Value) (xs : List V), Inv X pins σ H s → RelV v u → iw v H xs → ∀ (Q : Value → Shared → Prop) (E : Value → Shared → Prop),
  (∀ (o : Obj) (fp : List Addr) (St : Nat → Heap → Prop) (Pf : Nat → Value → Prop), (∀ A' : Around, A'.handled = none → Walks X.prog X.w A' s.heap.objs.size fp [s.heap.objs.size] xs.length Pf St) →
    (∀ i y, Pf i y → ∃ x, xs[i]? = some x ∧ RelV x y) → St 0 (s.heap.push o) → (∀ b ∈ fp, b = s.heap.objs.size ∨ ∃ ob : Obj, s.heap.get? b = some ob ∧ ∀ ps, ob.data ≠ .fields ps) →
    Q (.ref s.heap.objs.size) { s with heap := s.heap.push o }) → wpAny (model X.prog X.w) X.A (pyIter u) Q E s
def iwS : V → Hp → List V → Prop := fun v _ xs => ∃ a : Str, v = .str a ∧ xs = a.cps.toList.map fun c => V.str ⟨#[c]⟩
def iwT (K : PySem.W.Frag) : V → Hp → List V → Prop := fun v H xs => ∃ p, v = .ref p ∧ SqT K H p xs
def iwL (K : PySem.W.Frag) : V → Hp → List V → Prop := fun v H xs => ∃ p, v = .ref p ∧ SqL K H p xs
theorem iw_str : IW X iwS := fun pins σ H s v u xs I r h Q E q => by
  obtain ⟨a, rfl, rfl⟩ := h
  obtain ⟨t, rfl⟩ := r
  refine wpAny_pyIter_str fun o St W hst => q o [s.heap.objs.size] St (SignAt a) (by simpa using W) (fun i y hy => ?_) hst fun b hb => Or.inl (by simpa using hb)
  obtain ⟨c, t, h1, rfl⟩ := hy
  refine ⟨.str ⟨#[c]⟩, ?_, ⟨t, rfl⟩⟩
  rw [List.getElem?_map, Array.getElem?_toList, h1]
  rfl
theorem iw_tup : IW X (iwT X.K) := fun pins σ H s v u xs I r h Q E q => by
  obtain ⟨p, rfl, h⟩ := h
  cases r
  obtain ⟨its, rv, ht, hz⟩ := I.tuple h
  have hlt : p < s.heap.objs.size := let ⟨o, ho, _⟩ := ht; Heap.lt_size ho
  refine wpAny_pyIter_tuple ht (q _ [s.heap.objs.size, p] (fun i h => h.IsTupleIter s.heap.objs.size p i ∧ h.IsTuple p its.toArray) (fun i v => its.toArray[i]? = some v) (fun A' hA => ?_) (fun i y hy => ?_) ⟨⟨_, Heap.get?_push_size _ rfl, rfl, rfl⟩, ht.push _⟩ fun b hb => ?_)
  · have := Walks.tuple (prog := X.prog) (w := X.w) (A := A') hA s.heap.objs.size p (Nat.ne_of_lt hlt) its.toArray
    have e : its.toArray.size = xs.length := by rw [List.size_toArray]; exact rv.length.symm
    rw [e] at this
    exact this
  · have hi : i < its.length := by
      have := (Array.getElem?_eq_some_iff.mp hy).1
      simpa using this
    have hi2 : i < xs.length := by rw [rv.length]; exact hi
    obtain ⟨w, hw, rw'⟩ := rv.get (List.getElem?_eq_getElem hi2)
    refine ⟨xs[i], List.getElem?_eq_getElem hi2, ?_⟩
    have e : its.toArray[i]? = some w := by simpa using hw
    rw [hy] at e
    cases e
    exact rw'
  · rcases List.mem_cons.mp hb with z | z
    · exact Or.inl z
    · have : b = p := by simpa using z
      subst this
      obtain ⟨o, ho, hc, n, hd⟩ := ht
      exact Or.inr ⟨o, ho, fun ps e => by rw [hd] at e; cases e⟩
theorem iw_lst : IW X (iwL X.K) := fun pins σ H s v u xs I r h Q E q => by
  obtain ⟨p, rfl, h⟩ := h
  cases r
  obtain ⟨its, rv, ht, hz⟩ := I.list h
  have hlt : p < s.heap.objs.size := let ⟨o, ho, _⟩ := ht.isList; Heap.lt_size ho
  refine wpAny_pyIter_list ht.isList (q _ [s.heap.objs.size, p] (fun i h => h.IsListIter s.heap.objs.size p i ∧ h.IsList p its.toArray) (fun i v => its.toArray[i]? = some v) (fun A' hA => ?_) (fun i y hy => ?_) ⟨⟨_, Heap.get?_push_size _ rfl, rfl, rfl⟩, ht.isList.push _⟩ fun b hb => ?_)
  · have := Walks.list (prog := X.prog) (w := X.w) (A := A') hA s.heap.objs.size p (Nat.ne_of_lt hlt) its.toArray
    have e : its.toArray.size = xs.length := by rw [List.size_toArray]; exact rv.length.symm
    rw [e] at this
    exact this
  · have hi : i < its.length := by
      have := (Array.getElem?_eq_some_iff.mp hy).1
      simpa using this
    have hi2 : i < xs.length := by rw [rv.length]; exact hi
    obtain ⟨w, hw, rw'⟩ := rv.get (List.getElem?_eq_getElem hi2)
    refine ⟨xs[i], List.getElem?_eq_getElem hi2, ?_⟩
    have e : its.toArray[i]? = some w := by simpa using hw
    rw [hy] at e
    cases e
    exact rw'
  · rcases List.mem_cons.mp hb with z | z
    · exact Or.inl z
    · have : b = p := by simpa using z
      subst this
      obtain ⟨o, ho, hc, n, hd⟩ := ht.isList
      exact Or.inr ⟨o, ho, fun ps e => by rw [hd] at e; cases e⟩
end
end GX
namespace GX
open PySem PySem.Spec PyProof.Rows L2 GxR
/-- the generator expression's scope in the scope of its def -/
structure GS (sc scope : Scope) (x : Str) : Prop where
  kind : scope.kind = .function
  co : scope.isCoroutine = false
  cell : ∀ y ∈ scope.names, y.2 ≠ .cell
  dot : scope.names.lookup (".0" : Str) = some NameKind.local
  loc : scope.names.lookup x = some .local
  free : ∀ y ∈ scope.names, y.2 = .free → sc.names.lookup y.1 = some .cell ∨ sc.names.lookup y.1 = some .free
def gsB (sc scope : Scope) (x : Str) : Bool :=
  decide (scope.kind = .function) && !scope.isCoroutine && scope.names.all (fun y => !decide (y.2 = .cell)) && decide (scope.names.lookup (".0" : Str) = some NameKind.local) && decide (scope.names.lookup x = some .local) &&
  scope.names.all fun y => !decide (y.2 = .free) || decide (sc.names.lookup y.1 = some .cell) || decide (sc.names.lookup y.1 = some .free)
theorem gs_by {sc scope : Scope} {x : Str} (h : gsB sc scope x = true) : GS sc scope x := by
  unfold gsB at h
  simp only [Bool.and_eq_true, Bool.or_eq_true, Bool.not_eq_true', decide_eq_true_eq, decide_eq_false_iff_not, List.all_eq_true] at h
  obtain ⟨⟨⟨⟨⟨h1, h2⟩, h3⟩, h4⟩, h5⟩, h6⟩ := h
  refine ⟨h1, h2, h3, h4, h5, fun y hy e => ?_⟩
  rcases h6 y hy with (z | z) | z
  · exact absurd e z
  · exact .inl z
  · exact .inr z
theorem GS.gen {X : Cx} {scope : Scope} {x : Str} (S : GS X.env.scope scope x) (ok : X.Ok) : GenS X.env scope x := ⟨S.kind, S.co, S.cell, S.dot, S.loc, fun y hy e => (S.free y hy e).elim (fun z => ok.has _ (.inl z)) fun z => ok.has _ (.inr z)⟩
theorem GS.vis {sc scope : Scope} {x : Str} (S : GS sc scope x) : ∀ y, scope.names.lookup y = some .free → sc.names.lookup y = some .cell ∨ sc.names.lookup y = some .free := fun y h => S.free _ (PySem.mem_of_lookup h) rfl
section
variable {X : Cx} {pins : List (Addr × Obj)} {σ : L2.St} {H : Hp} {s : Shared}
/-- the generator g whose items are f 0, f 1, .. -/
def ReadyV (X : Cx) (pins : List (Addr × Obj)) (σ : L2.St) (H1 : Hp) (P : Addr) (n : Nat) (f : Nat → V) (g : Addr) (s5 : Shared) : Prop :=
  ∃ (fp wr : List Addr) (G : Array GenState → Array GenState → Prop) (F : Nat → Value → Prop) (St : Nat → Shared → Prop),
    WalksS X.prog X.w X.A.in4 g fp wr G n F St ∧ St 0 s5 ∧ (∀ b ∈ fp, b < s5.heap.objs.size) ∧ g ∈ fp ∧ (∀ i s, St i s → s.TypeIs (.ref g) "generator") ∧
    (∀ i y, F i y → i < n ∧ RelV (f i) y) ∧
    ∀ s', Moved wr G s5 s' → ∃ H2, Tabbed P H1 H2 ∧ Inv X pins σ H2 s'
theorem gen_any {c P : Addr} {elt iter : Expr} {x : Str} {px gpos : Pos} {scope : Scope} {el : ER} {te : TE} {iw : V → Hp → List V → Prop} {k : Nat} {Q' : Value → Shared → Prop} {R : List V → Hp → (Nat → V) → Prop}
    (hr : Room k X.A) (TB : TabB X.base X.mg c P) (hcode : X.env.code = .ref c) (S : GenS X.env scope x) (hi : PE X iter te) (hiw : IW X iw) (hel : GP X x scope elt el)
    (hs : ∀ v, genFold iter X.env v = pure v) (hvis : ∀ y, scope.names.lookup y = some .free → X.env.scope.names.lookup y = some .cell ∨ X.env.scope.names.lookup y = some .free) (I : Inv X pins σ H s)
    (h : te σ H fun v H1 => ∃ xs, iw v H1 xs ∧ TabG H1 P ∧ ∃ f : Nat → V, (∀ i x, xs[i]? = some x → el σ H1 x (f i)) ∧ R xs H1 f)
    (hQ : ∀ xs H1 f g s5, R xs H1 f → ReadyV X pins σ H1 P xs.length f g s5 → Q' (.ref g) s5) :
    wpAny (model X.prog X.w) X.A (eval (.GeneratorExp elt [⟨.Name x px, iter, [], 0⟩] scope gpos) X.env) Q' X.xe s := by
  refine wpAny_GeneratorExp_walksQ hr.hd S.co (closure_ok S.free) S.cell S.dot S.loc S.kind (by have := hr.dp; omega) ?_ hs
  refine thn (hi.run pins s σ H _ I h) fun xv s1 ⟨v, H1, I1, r1, q1⟩ => ?_
  obtain ⟨xs, hxs, ⟨ps, hP, ht⟩, f, hf, q1⟩ := q1
  refine hiw pins σ H1 s1 v xv xs I1 r1 hxs _ _ fun o fp St Pf W hPf hst hfp => ?_
  have hPs : s1.heap.get? P = some { cls := .none, data := .fields ps } := I1.hok P _ hP
  have hPlt : P < s1.heap.objs.size := Heap.lt_size hPs
  have hP2 : (s1.heap.push o).get? P = some { cls := .none, data := .fields ps } := Heap.get?_push_of_some _ hPs
  have cd : PySem.W.CodeHd (s1.heap.push o) c P := TB.code.keeps fun b u e => Heap.get?_push_of_some _ (I1.bk b u e)
  have lim2 : (s1.heap.push o).NoLimit := I1.nolimit.push o
  have cont : ∀ (code : Value) (h3 : Heap) (tk : Nat) (ps' : Array Value), Heap.ExtBut P (s1.heap.push o) h3 → (s1.heap.push o).objs.size ≤ h3.objs.size → h3.get? P = some { cls := .none, data := .fields ps' } → (∃ more, ps' = ps ++ more) → TriplesOk ps'.toList →
      wpAny (model X.prog X.w) X.A (builtinsFor X.env.globals X.env.builtins) (fun bi s₄ =>
        ∃ Ia fp wr n₀ Pf St₀ pz F, Value.ref s1.heap.objs.size = .ref Ia ∧ (∀ A' : Around, A'.handled = none → Walks X.prog X.w A' Ia fp wr n₀ Pf St₀) ∧ St₀ 0 s₄.heap ∧ (∀ b ∈ fp, b < s₄.heap.objs.size) ∧ s₄.heap.NoLimit ∧ cStatics ∉ wr ∧
          (∀ href : Heap, (∀ b o, s₄.heap.get? b = some o → href.get? b = some o) →
            QuietGen X.prog X.w (genEnv scope (cloFrom X.env.cells scope.names []) s₄.heap.objs.size code bi X.env) x [] elt (List.range s₄.heap.objs.size) wr Pf pz F href) ∧
          (∀ a h₅ tk gs, gs.bare = true → s₄.heap.objs.size < a → h₅.objs.size = a + 1 → (∀ b o, s₄.heap.get? b = some o → h₅.get? b = some o) →
            WalksS X.prog X.w X.A.in4 a (a :: s₄.heap.objs.size :: List.range s₄.heap.objs.size) (s₄.heap.objs.size :: wr) (GenOnlyQ s₄.gens.size) (passing pz n₀ 0).length
              (fun j y => ∃ i, (passing pz n₀ 0)[j]? = some i ∧ F i y) (GenAt X.prog X.w X.A.in4 a s₄.gens.size s₄.heap.objs.size (List.range s₄.heap.objs.size) wr pz n₀ F) →
            GenAt X.prog X.w X.A.in4 a s₄.gens.size s₄.heap.objs.size (List.range s₄.heap.objs.size) wr pz n₀ F 0 { s₄ with gens := s₄.gens.push gs, toks := tk, heap := h₅ } →
            Q' (.ref a) { s₄ with gens := s₄.gens.push gs, toks := tk, heap := h₅ })) X.xe { s1 with heap := h3, toks := tk } := by
    intro code h3 tk ps' hx hsz hP3 hmore ht3
    obtain ⟨bm, ob, e1, e2, e3, e4, e5, e6, e7, e8⟩ := TB.bm
    have hcP : cStatics ≠ P := fun e => by
      obtain ⟨_, hns, _⟩ := I1.nolimit
      obtain ⟨o', es, ep, ho, hd, _⟩ := hns
      rw [e, hPs] at ho
      cases ho
      cases hd
    have hcl : cStatics < s1.heap.objs.size := let ⟨_, hns, _⟩ := I1.nolimit; hns.lt
    have sz2 : (s1.heap.push o).objs.size = s1.heap.objs.size + 1 := Heap.size_push ..
    have hs3 : s1.heap.objs.size < h3.objs.size := by rw [sz2] at hsz; exact hsz
    have keep3 : ∀ b u, b ≠ P → s1.heap.get? b = some u → h3.get? b = some u := fun b u hb e => hx b u hb (Heap.get?_push_of_some _ e)
    refine wpAny_builtinsFor (m := X.mg) (by rw [I1.ok.glob]; exact ((I1.mod.glob.keeps I1.bk).push o).extBut hx TB.gP) e1 e2 (keep3 _ _ e4 (I1.bk _ _ e5)) e6 e7 e8 ?_
    refine ⟨s1.heap.objs.size, fp, [s1.heap.objs.size], xs.length, Pf, St, (fun _ => true), (fun i y => i < xs.length ∧ RelV (f i) y), rfl, W, ?_, ?_, lim2.extBut hx hcP, ?_, ?_, ?_⟩
    · refine (W X.A hr.hd).frame _ _ _ hst fun b hb u e => hx b u (fun z => ?_) e
      rcases hfp b hb with z2 | ⟨ob', h1, h2⟩
      · exact Nat.ne_of_lt hPlt (z.symm.trans z2)
      · rw [z, hPs] at h1
        cases h1
        exact h2 _ rfl
    · intro b hb
      show b < h3.objs.size
      rcases hfp b hb with z | ⟨ob', h1, h2⟩
      · rw [z]
        exact hs3
      · exact Nat.lt_trans (Heap.lt_size h1) hs3
    · intro z
      rcases List.mem_cons.mp z with z | z
      · exact Nat.ne_of_lt hcl z
      · cases z
    · intro href hhref
      refine ⟨fun A' E' i v s₂ m₂ hA hPv hn hm hk => ?_, fun A' E' i v s₂ m₂ hA hPv hp hn hm hk => ?_⟩
      · simp only [List.forIn_nil]
        exact wpAny_pure ⟨rfl, keeps_refl _⟩
      · obtain ⟨xi, h1, h2⟩ := hPf i v hPv
        have hlt : i < xs.length := (List.getElem?_eq_some_iff.mp h1).1
        have nw : ∀ b u, s1.heap.get? b = some u → b ∉ [s1.heap.objs.size] := fun b u e hb => by
          have hl := Heap.lt_size e
          have z : b = s1.heap.objs.size := by simpa using hb
          rw [z] at hl
          exact Nat.lt_irrefl _ hl
        have up : ∀ b u, b ≠ P → s1.heap.get? b = some u → s₂.heap.get? b = some u := fun b u hb e => by
          have l1 : b < h3.objs.size := by
            exact Nat.lt_trans (Heap.lt_size e) hs3
          exact hk b (List.mem_range.mpr l1) (nw b u e) u (hhref b u (keep3 b u hb e))
        have nPb : ∀ b u, X.base.get? b = some u → b ≠ P := fun b u e z => by
          have q := (I1.bs b u e).2
          rw [z, hP] at q
          cases q
        refine hel σ H1 xi (f i) (hf i xi h1) _ A' E' s₂ hA ?_ ?_ _ fun u s' ru ku => ⟨⟨hlt, ru⟩, ku⟩
        · rfl
        refine ⟨I1.ok, S.kind, I1.ok.glob, S.loc, ⟨m₂, v, hn, hm, h2⟩, fun j y u e1 e2 e3 => ?_, fun b u e => up b u (nPb b u e) (I1.bk b u e), fun a o' u e => ?_, fun a zs e => ?_⟩
        · obtain ⟨m, hm1, hl⟩ := I1.loc
          have e3' : scope.names.lookup y = some .free := e3
          have hv := hvis y e3'
          obtain ⟨w, rw', lk⟩ := hl j y u e1 e2 (by rcases hv with z | z; exact Or.inr (Or.inl z); exact Or.inr (Or.inr z))
          obtain ⟨cc, hc1, oc, hc2, hc3⟩ : ∃ cc, X.env.cells.lookup y = some cc ∧ s1.heap.IsCell cc (some w) := by
            rcases lk with ⟨z, _⟩ | ⟨_, z⟩
            · have z' : X.env.scope.names.lookup y = some .local := z
              rcases hv with q | q <;> rw [q] at z' <;> cases z'
            · exact z
          have ncP : cc ≠ P := fun z => by
            rw [z, hPs] at hc2
            cases hc2
            cases hc3
          obtain ⟨c2, hc4⟩ := mem_lookup (cloFrom_has (cells := X.env.cells) (acc := []) (PySem.mem_of_lookup e3'))
          refine ⟨c2, w, hc4, ?_, rw'⟩
          have hc5 := PySem.mem_of_lookup hc4
          rcases cloFrom_mem hc5 with z | ⟨_, z⟩
          · cases z
          · have : c2 = cc := by rw [z, hc1]; rfl
            rw [this]
            exact ⟨oc, up cc oc ncP hc2, hc3⟩
        · have nP : a ≠ P := fun z => by
            rw [z, hP] at e
            cases e
          exact up a o' nP ((I1.hok a _ e).1)
        · obtain ⟨its, y1, ⟨o', y2, y3, n, y5⟩, y4⟩ := I1.tuple e
          have nP : a ≠ P := fun z => by
            rw [z, hPs] at y2
            cases y2
            cases y5
          exact ⟨its, y1, ⟨o', up a o' nP y2, y3, n, y5⟩, y4⟩
    · intro g h5 tk5 gs hgb hag hsz5 hk5 W5 hat
      simp only [GxR.passing_true, List.length_range] at W5
      refine hQ xs H1 f g _ q1 ⟨_, _, _, _, _, W5, hat, ?_, List.mem_cons_self, fun i s9 h9 => ?_, ?_, fun s' hm => ?_⟩
      · intro b hb
        show b < h5.objs.size
        have e5 : h5.objs.size = g + 1 := hsz5
        have h8 : h3.objs.size < g := hag
        rw [e5]
        rcases List.mem_cons.mp hb with z | z
        · rw [z]
          exact Nat.lt_succ_self g
        · rcases List.mem_cons.mp z with z | z
          · rw [z]
            exact Nat.lt_succ_of_lt h8
          · have z2 := List.mem_range.mp z
            have h7 : b < h3.objs.size := z2
            exact Nat.lt_succ_of_lt (Nat.lt_trans h7 h8)
      · obtain ⟨hg9, _⟩ := h9
        exact hg9.typeIs
      · intro j y hy
        obtain ⟨i, hij, h1, h2⟩ := hy
        obtain ⟨hj, ej⟩ := List.getElem?_eq_some_iff.mp hij
        rw [List.getElem_range] at ej
        subst ej
        exact ⟨h1, h2⟩
      · obtain ⟨more, em⟩ := hmore
        have nwr : ∀ b u, s1.heap.get? b = some u → b ∉ h3.objs.size :: [s1.heap.objs.size] := fun b u e hb => by
          have hl := Heap.lt_size e
          rcases List.mem_cons.mp hb with z | z
          · rw [z] at hl
            have h9 : (h3.objs.size : Nat) < s1.heap.objs.size := hl
            omega
          · rcases List.mem_cons.mp z with z | z
            · rw [z] at hl
              exact Nat.lt_irrefl _ hl
            · cases z
        have J := inv_tab (more := more) (h' := s'.heap) (g' := s'.gens) (d' := s'.drawn) (t' := s'.toks) I1 hP (fun b u hb e => hm.heap b u (nwr b u e) (hk5 b u (keep3 b u hb e)))
          (by rw [← em]; exact hm.heap P _ (nwr P _ hPs) (hk5 P _ hP3)) (AllBare.movedS (I1.bare.push hgb) hm)
        rw [sh_eta s1 s' hm.os] at J
        refine ⟨upd H1 P (.tbl (ps ++ more)), ⟨⟨ps ++ more, upd_same, by rw [← em]; exact ht3⟩, fun b hb => upd_ne hb⟩, J⟩
  refine ⟨lim2, ?_⟩
  cases hf : codeAmong gpos ps.toList with
  | none =>
    refine wpAny_genexprCodeX hcode (cd.code hP2 ht) (cd.tab hP2) hf fun c' h' tk hx hge hlt hco' _ htab' _ => ?_
    obtain ⟨o1, vs, f1, tf, fl, tg, inF, tx, tt, op, _, _, _, _, _, _, _, _, _, htr, _⟩ := hco'
    exact cont _ h' tk _ hx (Nat.le_trans hge (Nat.le_of_lt hlt)) htab'.2 ⟨_, rfl⟩ htr
  | some cv =>
    refine wpAny_genexprCode_hit hcode (cd.code hP2 ht) hf ?_
    exact cont cv (s1.heap.push o) s1.toks ps (Heap.ExtBut.refl _ _) (Nat.le_refl _) hP2 ⟨#[], by simp⟩ ht
/-- any(..) of tests -/
def tGAny (P : Addr) (iw : V → Hp → List V → Prop) (el : ER) (te : TE) : TE := fun σ H Q => te σ H fun v H1 => ∃ xs, iw v H1 xs ∧ TabG H1 P ∧ ∃ f : Nat → V, (∀ i x, xs[i]? = some x → el σ H1 x (f i)) ∧
  ∃ b : Nat → Bool, (∀ i, i < xs.length → f i = .bl (b i)) ∧ ∀ H2, Tabbed P H1 H2 → Q (.bl ((List.range xs.length).any b)) H2
theorem pe_anyGen {c P : Addr} {elt iter : Expr} {x : Str} {px p pos gpos : Pos} {scope : Scope} {el : ER} {te : TE} {iw : V → Hp → List V → Prop} {k : Nat}
    (hr : Room k X.A) (hg : Gl X "any") (hm : X.mg "any" = none) (TB : TabB X.base X.mg c P) (hcode : X.env.code = .ref c) (S : GS X.env.scope scope x) (hi : PE X iter te) (hiw : IW X iw) (hel : GP X x scope elt el)
    (hs : ∀ v, genFold iter X.env v = pure v)
    (he : starEach [.GeneratorExp elt [⟨.Name x px, iter, [], 0⟩] scope gpos] X.env = (false, eval (.GeneratorExp elt [⟨.Name x px, iter, [], 0⟩] scope gpos) X.env) :: starEach [] X.env := by rfl) :
    PE X (.Call (.Name "any" p) [.GeneratorExp elt [⟨.Name x px, iter, [], 0⟩] scope gpos] [] pos) (tGAny P iw el te) := by
  refine ⟨fun pins s σ H Q I h => ?_⟩
  refine wpAny_Call_Name_kw (ld_blt I hg hm boot_any ?_)
  refine PyProof.Rows.callWith_builtin1 ?_ he (by rfl)
  rw [he]
  show wpAny _ _ (spliced ((false, eval (.GeneratorExp elt [⟨.Name x px, iter, [], 0⟩] scope gpos) X.env) :: backTo pos (starEach [] X.env))) _ _ s
  refine Calls.spliced_cons (gen_any (R := fun xs H1 f => ∃ b : Nat → Bool, (∀ i, i < xs.length → f i = .bl (b i)) ∧ ∀ H2, Tabbed P H1 H2 → Q (.bl ((List.range xs.length).any b)) H2) hr TB hcode (S.gen I.ok) hi hiw hel hs S.vis I h fun xs H1 f g s5 hR hG => ?_)
  obtain ⟨fp, wr, G, F, St, W, hst, _, _, _, hF, hI⟩ := hG
  obtain ⟨b, hb, hR⟩ := hR
  refine Calls.spliced_nil ?_
  refine call_any_walkS (W.in4_1.self 0 _ _ _ hst ⟨g, fp, wr, G, _, F, St, b, rfl, W.in4_1, hst, ?_, fun s' hmv => ?_⟩)
  · intro j y sj Qj Ej hy hQj
    obtain ⟨h1, h2⟩ := hF j y hy
    rw [hb j h1] at h2
    cases h2
    exact wpAny_truthy_bool hQj
  · obtain ⟨H2, hT, J⟩ := hI s' hmv
    exact ⟨.bl _, H2, J, rfl, hR H2 hT⟩
/-- tuple(..) -/
def tGTup (P : Addr) (iw : V → Hp → List V → Prop) (el : ER) (te : TE) : TE := fun σ H Q => te σ H fun v H1 => ∃ xs, iw v H1 xs ∧ TabG H1 P ∧ ∃ f : Nat → V, (∀ i x, xs[i]? = some x → el σ H1 x (f i)) ∧
  xs.length ≤ 100000 ∧ ∀ H2, Tabbed P H1 H2 → ∀ (p : Addr) (o : Obj), H2 p = none → o.dict = none → Q (.ref p) (upd H2 p (.frz o (.tup ((List.range xs.length).map f))))
theorem pe_tupGen {c P : Addr} {elt iter : Expr} {x : Str} {px p pos gpos : Pos} {scope : Scope} {el : ER} {te : TE} {iw : V → Hp → List V → Prop} {k : Nat}
    (hr : Room k X.A) (hg : Gl X "tuple") (hm : X.mg "tuple" = none) (TB : TabB X.base X.mg c P) (hcode : X.env.code = .ref c) (S : GS X.env.scope scope x) (hi : PE X iter te) (hiw : IW X iw) (hel : GP X x scope elt el)
    (hs : ∀ v, genFold iter X.env v = pure v)
    (he : starEach [.GeneratorExp elt [⟨.Name x px, iter, [], 0⟩] scope gpos] X.env = (false, eval (.GeneratorExp elt [⟨.Name x px, iter, [], 0⟩] scope gpos) X.env) :: starEach [] X.env := by rfl) :
    PE X (.Call (.Name "tuple" p) [.GeneratorExp elt [⟨.Name x px, iter, [], 0⟩] scope gpos] [] pos) (tGTup P iw el te) := by
  refine ⟨fun pins s σ H Q I h => ?_⟩
  refine Call_ (ld_blt I hg hm boot_tuple (PyProof.Rows.callWith_type1 (args_cons (gen_any (R := fun xs H1 f => xs.length ≤ 100000 ∧ ∀ H2, Tabbed P H1 H2 → ∀ (p : Addr) (o : Obj), H2 p = none → o.dict = none → Q (.ref p) (upd H2 p (.frz o (.tup ((List.range xs.length).map f))))) hr TB hcode (S.gen I.ok) hi hiw hel hs S.vis I h fun xs H1 f g s5 hR hG => args_nil ?_) he) he))
  obtain ⟨fp, wr, G, F, St, W, hst, hfp, hgf, hT, hF, hI⟩ := hG
  obtain ⟨hz, hR⟩ := hR
  refine call_tuple_gen (hsz := Evl.sz_of hz) W.in4_3 hT hst hfp hgf fun s' acc hm hacc => ?_
  obtain ⟨H2, hTb, J⟩ := hI s' hm
  have hpn : H2 s'.heap.objs.size = none := J.hok.fresh (Nat.le_refl _)
  have hv : Vals ((List.range xs.length).map f) acc.toList := by
    refine vals_of_at (by simp [hacc.1]) fun j y u h1 h2 => ?_
    have h3 : acc[j]? = some u := by simpa using h2
    have h4 := hF j u (hacc.2 j u h3)
    rw [List.getElem?_map, List.getElem?_eq_getElem (by simpa using h4.1)] at h1
    simp at h1
    rw [← h1]
    exact h4.2
  refine ⟨.ref s'.heap.objs.size, upd H2 s'.heap.objs.size (.frz { cls := .type "tuple", data := .seq acc } (.tup ((List.range xs.length).map f))), J.laid (t' := s'.toks) (fun c o e => Heap.get?_push_of_some _ e) (Nat.le_refl _) ?_, rfl, hR H2 hTb _ _ hpn rfl⟩
  refine ⟨Heap.get?_push_size _ rfl, Evl.sz_of (by simpa using hz), acc.toList, hv, ?_⟩
  rw [Array.toArray_toList]
  exact IsTup.new _ _
end
end GX
namespace DL
open PySem PySem.Spec PyProof.Rows L2 GX GxR
section
variable {T : Tb} {K : PySem.W.Frag} {E : XK} {g g' : G} {r r' r1 r2 r3 : Rs} {ta tb tc te : TE} {t : TT} {x y z d : D} {ds es xs : List D} {tas : TA} {O O' : Out} {s1 s2 ts tu : TS} {i j k : Nat} {tg : TG} {P : Addr}
/-- a weaker reading of a tuple -/
theorem ev_tux (h : Ev T K te g r (.tux ds) r1) : Ev T K te g r (.tup ds) r1 := fun rf Hs H σ s Q q => h rf Hs H σ s Q fun v Hs1 H1 e s1 rv => q v Hs1 H1 e s1 rv.weakT
theorem ev_varW (h : g[i]? = some (some (.tux ds))) : Ev T K (tVar i) g r (.tup ds) r := ev_tux (ev_var h)
/-! ### elements -/
def ElD (T : Tb) (K : PySem.W.Frag) (el : ER) (g : G) (r : Rs) (x v : D) : Prop := ∀ (rf : Rs) (Hs H : Hp) (σ : L2.St), SR T K Hs H σ g (r ++ rf) → ∀ u, DR K Hs u x → ∃ w, DR K Hs w v ∧ el σ H u w
theorem el_item : ElD T K elItem g r x x := fun rf Hs H σ s u ru => ⟨u, ru, rfl⟩
theorem el_var (h : g[i]? = some (some d)) : ElD T K (elVar i) g r x d := fun rf Hs H σ s u ru => by
  obtain ⟨v, h1, h2⟩ := s.sl i _ h
  exact ⟨v, h2, h1⟩
theorem el_int {n : Int} : ElD T K (elC (.int n)) g r x (.int n) := fun rf Hs H σ s u ru => ⟨_, .int n, rfl⟩
theorem el_str {n : Str} : ElD T K (elC (.str n)) g r x (.str n) := fun rf Hs H σ s u ru => ⟨_, .str n, rfl⟩
theorem el_add {a b : ER} {m n : Int} (ha : ElD T K a g r x (.int m)) (hb : ElD T K b g r x (.int n)) : ElD T K (elAdd a b) g r x (.int (m + n)) := fun rf Hs H σ s u ru => by
  obtain ⟨v, h1, h2⟩ := ha rf Hs H σ s u ru
  obtain ⟨w, h3, h4⟩ := hb rf Hs H σ s u ru
  cases h1
  cases h3
  exact ⟨_, .int _, m, n, h2, h4, rfl⟩
theorem el_sub {a b : ER} {m n : Int} (ha : ElD T K a g r x (.int m)) (hb : ElD T K b g r x (.int n)) : ElD T K (elSub a b) g r x (.int (m - n)) := fun rf Hs H σ s u ru => by
  obtain ⟨v, h1, h2⟩ := ha rf Hs H σ s u ru
  obtain ⟨w, h3, h4⟩ := hb rf Hs H σ s u ru
  cases h1
  cases h3
  exact ⟨_, .int _, m, n, h2, h4, rfl⟩
theorem el_ixT {a b : ER} {n : Int} (ha : ElD T K a g r x (.tup ds)) (hb : ElD T K b g r x (.int n)) (h : atI ds n = some d) : ElD T K (elIxT K a b) g r x d := fun rf Hs H σ s u ru => by
  obtain ⟨v, h1, h2⟩ := ha rf Hs H σ s u ru
  obtain ⟨w, h3, h4⟩ := hb rf Hs H σ s u ru
  obtain ⟨p, xs, rfl, h5, h6⟩ := h1.tupI
  cases h3
  obtain ⟨z, h7, h8⟩ := h6.at h
  exact ⟨z, h8, p, xs, n, h2, h4, s.ex.st h5, h7⟩
theorem el_weak {a : ER} (ha : ElD T K a g r x (.tux ds)) : ElD T K a g r x (.tup ds) := fun rf Hs H σ s u ru => by
  obtain ⟨v, h1, h2⟩ := ha rf Hs H σ s u ru
  exact ⟨v, h1.weakT, h2⟩
theorem el_idxT {a b : ER} {ns : List Int} {n : Int} (ha : ElD T K a g r x (.tux (ns.map D.int))) (hb : ElD T K b g r x (.int n)) (h : n ∈ ns) : ElD T K (elIdxT K a b) g r x (.int ((ns.idxOf n : Nat) : Int)) := fun rf Hs H σ s u ru => by
  obtain ⟨v, h1, h2⟩ := ha rf Hs H σ s u ru
  obtain ⟨w, h3, h4⟩ := hb rf Hs H σ s u ru
  cases h3
  cases h1 with
  | tux h5 h6 h7 =>
    have e := DRs.ints_inv h7
    subst e
    exact ⟨_, .int _, _, _, ns, n, h2, h4, s.ex.keep _ _ h5 (fun _ z => nomatch z), h6, h, True.intro, rfl⟩
theorem el_idxS {a b : ER} {zs ys : Str} {n : Nat} {rest : List Nat} (ha : ElD T K a g r x (.str zs)) (hb : ElD T K b g r x (.str ys)) (h : Builtin.Str.occurrences zs ys 0 zs.length 1 = n :: rest) : ElD T K (elIdxS a b) g r x (.int ((n : Nat) : Int)) := fun rf Hs H σ s u ru => by
  obtain ⟨v, h1, h2⟩ := ha rf Hs H σ s u ru
  obtain ⟨w, h3, h4⟩ := hb rf Hs H σ s u ru
  cases h1
  cases h3
  exact ⟨_, .int _, zs, _, _, rest, h2, h4, h, rfl⟩
theorem el_notInS {a b : ER} {zs : Str} {c : Nat} (ha : ElD T K a g r x (.str ⟨#[c]⟩)) (hb : ElD T K b g r x (.str zs)) : ElD T K (elNotInS a b) g r x (.bl (!decide (c ∈ zs.cps.toList))) := fun rf Hs H σ s u ru => by
  obtain ⟨v, h1, h2⟩ := ha rf Hs H σ s u ru
  obtain ⟨w, h3, h4⟩ := hb rf Hs H σ s u ru
  cases h1
  cases h3
  exact ⟨_, .bl _, c, zs, h2, h4, rfl⟩
/-! ### what is walked -/
def IwD (T : Tb) (K : PySem.W.Frag) (iw : V → Hp → List V → Prop) (x : D) (g : G) (r : Rs) (ds : List D) : Prop := ∀ (rf : Rs) (Hs H : Hp) (σ : L2.St) (v : V), SR T K Hs H σ g (r ++ rf) → DR K Hs v x → ∃ xs, iw v H xs ∧ DRs K Hs xs ds
theorem iwd_str {zs : Str} : IwD T K iwS (.str zs) g r (zs.cps.toList.map sgn) := fun rf Hs H σ v s rv => by
  cases rv
  refine ⟨_, ⟨zs, rfl, rfl⟩, ?_⟩
  have := DRs.strs (K := K) (H := Hs) (zs.cps.toList.map fun c => (⟨#[c]⟩ : Str))
  rw [List.map_map, List.map_map] at this
  exact this
theorem iwd_tup : IwD T K (iwT K) (.tup ds) g r ds := fun rf Hs H σ v s rv => by
  obtain ⟨p, xs, rfl, h1, h2⟩ := rv.tupI
  exact ⟨xs, ⟨p, rfl, s.ex.st h1⟩, h2⟩
theorem iwd_lst (h : Vl x r ds) : IwD T K (iwL K) x g r ds := fun rf Hs H σ v s rv => by
  obtain ⟨p, xs, rfl, h1, h2⟩ := h.at s rv
  exact ⟨xs, ⟨p, rfl, Evl.sq_of h1⟩, h2⟩
theorem SR.tabbed {rf : Rs} {Hs H H2 : Hp} {σ : L2.St} (s : SR T K Hs H σ g (r ++ rf)) (hP : P ∈ T.gs) (h : Tabbed P H H2) : SR T K Hs H2 σ g (r ++ rf) := s.grow (Ext.tab hP h (s.wfH.g P hP))
/-- the elements -/
theorem el_all {el : ER} {Hs H : Hp} {rf : Rs} {σ : L2.St} {xs : List V} {fd : D → D} (s : SR T K Hs H σ g (r ++ rf)) (hx : DRs K Hs xs ds) (h : ∀ d ∈ ds, ElD T K el g r d (fd d)) :
    ∃ f : Nat → V, (∀ i x, xs[i]? = some x → el σ H x (f i)) ∧ DRs K Hs ((List.range xs.length).map f) (ds.map fd) ∧ ∀ (i : Nat) d, ds[i]? = some d → DR K Hs (f i) (fd d) := by
  have h1 : ∀ i : Nat, ∃ w : V, ∀ x d, xs[i]? = some x → ds[i]? = some d → el σ H x w ∧ DR K Hs w (fd d) := by
    intro i
    cases hi : ds[i]? with
    | none => exact ⟨.non, fun x d _ e => by cases e⟩
    | some d =>
      obtain ⟨v, h2, h3⟩ := hx.get hi
      obtain ⟨w, h4, h5⟩ := h d (List.mem_of_getElem? hi) rf Hs H σ s v h3
      exact ⟨w, fun x d' e1 e2 => by rw [h2] at e1; cases e1; cases e2; exact ⟨h5, h4⟩⟩
  obtain ⟨f, hf⟩ := Classical.skolem.mp h1
  refine ⟨f, fun i x e => ?_, ?_, fun i d e => ?_⟩
  · obtain ⟨d, e1, e2⟩ := hx.get' e
    exact (hf i x d e e1).1
  · have hl := hx.length
    have key : ∀ n, n ≤ xs.length → DRs K Hs ((List.range n).map f) ((ds.take n).map fd) := by
      intro n
      induction n with
      | zero => intro _; exact .nil
      | succ n ih =>
        intro hn
        have hd : n < ds.length := by omega
        rw [List.range_succ, List.map_append, List.take_succ, List.getElem?_eq_getElem hd, List.map_append]
        exact (ih (by omega)).append (.cons (hf n _ _ (List.getElem?_eq_getElem (by omega)) (List.getElem?_eq_getElem hd)).2 .nil)
    have := key xs.length (Nat.le_refl _)
    rw [hl, List.take_length] at this
    rw [hl]
    exact this
  · obtain ⟨v, e1, e2⟩ := hx.get e
    exact (hf i v d e1 e).2
theorem any_range {b : Nat → Bool} {c : D → Bool} (h : ∀ (i : Nat) d, ds[i]? = some d → b i = c d) : (List.range ds.length).any b = ds.any c := by
  rw [Bool.eq_iff_iff, List.any_eq_true, List.any_eq_true]
  constructor
  · rintro ⟨i, h1, h2⟩
    have hl := List.mem_range.mp h1
    rw [h i _ (List.getElem?_eq_getElem hl)] at h2
    exact ⟨_, List.getElem_mem hl, h2⟩
  · rintro ⟨d, h1, h2⟩
    obtain ⟨i, hi, e⟩ := List.getElem_of_mem h1
    refine ⟨i, List.mem_range.mpr hi, ?_⟩
    rw [h i d (by rw [List.getElem?_eq_getElem hi, e])]
    exact h2
theorem ev_anyGen {iw : V → Hp → List V → Prop} {el : ER} {b : D → Bool} (hP : P ∈ T.gs) (h : Ev T K te g r x r1) (hw : IwD T K iw x g r1 ds) (he : ∀ d ∈ ds, ElD T K el g r1 d (.bl (b d))) : Ev T K (tGAny P iw el te) g r (.bl (ds.any b)) r1 := fun rf Hs H σ s Q q =>
  h rf Hs H σ s _ fun v Hs1 H1 e1 s1 rv => by
    obtain ⟨xs, h1, h2⟩ := hw rf Hs1 H1 σ v s1 rv
    obtain ⟨f, f1, f2, f3⟩ := el_all (fd := fun d => .bl (b d)) s1 h2 he
    have hl := h2.length
    refine ⟨xs, h1, s1.wfH.g P hP, f, f1, fun i => match ds[i]? with | some d => b d | none => false, fun i hi => ?_, fun H2 hT => ?_⟩
    · have hd : i < ds.length := by omega
      have := f3 i _ (List.getElem?_eq_getElem hd)
      show f i = V.bl (match ds[i]? with | some d => b d | none => false)
      rw [List.getElem?_eq_getElem hd]
      generalize f i = w at this
      cases this
      rfl
    · rw [hl, any_range (c := b) (fun i d e => by rw [e])]
      exact q _ Hs1 H2 e1 (s1.tabbed hP hT) (.bl _)
theorem ev_tupGen {iw : V → Hp → List V → Prop} {el : ER} {fd : D → D} (hP : P ∈ T.gs) (h : Ev T K te g r x r1) (hw : IwD T K iw x g r1 ds) (he : ∀ d ∈ ds, ElD T K el g r1 d (fd d)) (hz : ds.length ≤ 100000) : Ev T K (tGTup P iw el te) g r (.tux (ds.map fd)) r1 := fun rf Hs H σ s Q q =>
  h rf Hs H σ s _ fun v Hs1 H1 e1 s1 rv => by
    obtain ⟨xs, h1, h2⟩ := hw rf Hs1 H1 σ v s1 rv
    obtain ⟨f, f1, f2, f3⟩ := el_all (fd := fd) s1 h2 he
    have hl := h2.length
    refine ⟨xs, h1, s1.wfH.g P hP, f, f1, by omega, fun H2 hT p o hp ho => ?_⟩
    obtain ⟨s3, e3⟩ := (s1.tabbed hP hT).alloc (o := .frz o (.tup ((List.range xs.length).map f))) hp True.intro
    exact q _ _ _ (e1.trans e3) s3 (.tux upd_same ho (DRs.mono e3 _ f2))
end
def SIGNS : Str := "1234567890ET"
theorem occ_signs : ∀ c ∈ SIGNS.cps.toList, Builtin.Str.occurrences SIGNS ⟨#[c]⟩ 0 SIGNS.length 1 = [SIGNS.cps.toList.idxOf c] := by decide +kernel
end DL
namespace L2
open PySem PySem.Spec PyProof.Rows HT
/-- tuple(xs) of a list: the new tuple's object is told -/
def kTupX (K : PySem.W.Frag) (x : V) (H : Hp) (Q : VK) : Prop :=
  ∃ p xs, x = .ref p ∧ SqL K H p xs ∧ ∀ (q : Addr) (o : Obj), H q = none → o.dict = none → Q (.ref q) (upd H q (.frz o (.tup xs)))
section
variable {X : Cx} {a b c : Expr} {ta tb tc te : TE}
theorem pe_tupX {p pos : Pos} (hg : Gl X "tuple") (hm : X.mg "tuple" = none) (ha : PE X a ta) (na : starEach [a] X.env = (false, eval a X.env) :: starEach [] X.env := by rfl) :
    PE X (.Call (.Name "tuple" p) [a] [] pos) (tThen ta (kTupX X.K)) := by
  refine ⟨fun pins s σ H Q I h => ?_⟩
  refine Call_ (ld_blt I hg hm boot_tuple (PyProof.Rows.callWith_type1 (one_arg ha I h (fun v s2 x H2 I2 r h => ?_) na) na))
  obtain ⟨p, xs, rfl, hs, q⟩ := h
  obtain rfl : v = .ref p := r
  obtain ⟨its, rv, pl, hz⟩ := I2.list hs
  refine call_tuple_list pl.isList (fun h' hk => ?_) (by rw [List.size_toArray, ← rv.length]; exact hz)
  have I3 : Inv X pins σ H2 { s2 with heap := h' } := I2.kept (t' := s2.toks) hk
  have I4 : Inv X pins σ (upd H2 h'.objs.size (.frz { cls := .type "tuple", data := .seq its.toArray } (.tup xs))) { s2 with heap := h'.push { cls := .type "tuple", data := .seq its.toArray } } :=
    I3.laid (t' := s2.toks) (fun b o e => Heap.get?_push_of_some _ e) (Nat.le_refl _) ⟨Heap.get?_push_size _ rfl, hz, its, rv, IsTup.new _ _⟩
  exact ⟨.ref h'.objs.size, _, I4, rfl, q _ _ (I3.hok.fresh (Nat.le_refl _)) rfl⟩
/-- tuple(range(a, b, c)) -/
def tTupRg3 (ta : TA) : TE := fun σ H Q => ta σ H fun vs H1 => ∃ (i j c : Int) (n : Nat), vs = [.int i, .int j, .int c] ∧ RgC i j c n ∧ n ≤ 100000 ∧
  ∀ p, H1 p = none → Q (.ref p) (upd H1 p (.tup ((List.range n).map fun (m : Nat) => V.int (i + (m : Int) * c))))
theorem pe_tupRg3 {tt : TA} {p p2 pos pos2 : Pos} (hc : X.calm = true) (hg : Gl X "tuple") (hm : X.mg "tuple" = none) (hg2 : Gl X "range") (hm2 : X.mg "range" = none) (ha : PA X [a, b, c] tt)
    (hs : starEach [a, b, c] X.env = (false, eval a X.env) :: starEach [b, c] X.env := by rfl) (hpl : (backTo pos2 (starEach [b, c] X.env)).any (·.1) = false := by rfl)
    (na : starEach [.Call (.Name "range" p2) [a, b, c] [] pos2] X.env = (false, eval (.Call (.Name "range" p2) [a, b, c] [] pos2) X.env) :: starEach [] X.env := by rfl) :
    PE X (.Call (.Name "tuple" p) [.Call (.Name "range" p2) [a, b, c] [] pos2] [] pos) (tTupRg3 tt) := by
  refine ⟨fun pins s σ H Q I h => ?_⟩
  refine Call_ (ld_blt I hg hm boot_tuple (PyProof.Rows.callWith_type1 (args_cons ?_ na) na))
  refine Call_ (ld_blt I hg2 hm2 boot_range (PyProof.Rows.callWith_type1 (thn (ha.run pos2 pins s σ H _ I h) fun us s1 ⟨vs, H1, I1, r1, q1⟩ => ?_) hs hpl))
  obtain ⟨i, j, k, n, e, ⟨c0, c1, c2, c3⟩, hn, q⟩ := q1
  subst e
  cases r1 with
  | cons r rr =>
    cases rr with
    | cons r' rr =>
      cases rr with
      | cons r'' rr =>
        cases rr
        obtain ⟨t, rfl⟩ := r
        obtain ⟨t', rfl⟩ := r'
        obtain ⟨t'', rfl⟩ := r''
        refine call_range_3 c0 ?_ (.inl (PyProof.noPylong_small c1))
        refine args_nil ?_
        have I2 : Inv X pins σ H1 { s1 with heap := s1.heap.push { cls := .type "range", data := .fields #[.int i t, .int j t', .int k t''] } } := I1.kept (t' := s1.toks) fun b o e => Heap.get?_push_of_some _ e
        refine call_tuple_range (n := n) (I1.ok.hd hc) (IsRange.new ..) c2 c3 (by omega) fun h' tk acc hk hi => ?_
        have I3 : Inv X pins σ H1 { s1 with heap := h', toks := tk } := I2.kept hk
        refine ⟨.ref h'.objs.size, upd H1 h'.objs.size (.tup ((List.range n).map fun (m : Nat) => V.int (i + (m : Int) * k))), I3.laid (t' := tk) (fun c o e => Heap.get?_push_of_some _ e) (Nat.le_refl _) ⟨?_, acc.toList, ?_, ?_⟩, rfl, q _ (I3.hok.fresh (Nat.le_refl _))⟩
        · rw [List.length_map, List.length_range, sizeLine_eq]; omega
        · refine vals_of_at (by simp [hi.1]) fun m y u h1 h2 => ?_
          have h3 : acc[m]? = some u := by simpa using h2
          obtain ⟨t9, e9⟩ := hi.2 m u h3
          have hm : m < n := by
            have := (Array.getElem?_eq_some_iff.mp h3).1
            rw [hi.1] at this
            exact this
          rw [List.getElem?_map, List.getElem?_eq_getElem (by simpa using hm)] at h1
          simp at h1
          rw [← h1, e9]
          exact ⟨t9, rfl⟩
        · rw [Array.toArray_toList]; exact IsTup.new _ _
/-! ### slices with a step -/
def stepL {α : Type} (xs : List α) (lo : Option Int) (st : Int) : List α :=
  (List.range (Builtin.Slice.slicePlaces (Builtin.Slice.sliceAdjust lo none st xs.length).1 (Builtin.Slice.sliceAdjust lo none st xs.length).2 st)).filterMap fun (k : Nat) => xs[((Builtin.Slice.sliceAdjust lo none st xs.length).1 + (k : Int) * st).toNat]?
def tStepT (K : PySem.W.Frag) (te : TE) (tl : TO) (ts : TE) : TE := fun σ H Q => te σ H fun x H1 => tl σ H1 fun lo H2 => ts σ H2 fun y H3 => ∃ a xs st, x = .ref a ∧ y = .int st ∧ SqT K H3 a xs ∧ st ≠ 0 ∧ st ≠ 1 ∧ (stepL xs lo st).length ≤ 100000 ∧
  ∀ p, H3 p = none → Q (.ref p) (upd H3 p (.tup (stepL xs lo st)))
theorem getItem_tuple_step {prog : Program} {w : World} {A : Around} {E : Value → Shared → Prop} {s : Shared} {t sl : Addr} {its : List Value} {vl : Value} {lo : Option Int} {st : Int} {tst : Tok} {Q : Value → Shared → Prop} (ht : IsTup s.heap t its.toArray) (hs : s.heap.IsSliceOf sl vl .none (.int st tst)) (pl : IsPart vl lo)
    (h0 : st ≠ 0) (h1 : st ≠ 1) (h : Q (.ref s.heap.objs.size) { s with heap := s.heap.push { cls := .type "tuple", data := .seq (stepL its lo st).toArray } })
    (hsz : (stepL its lo st).length ≤ sizeLine) : wpAny (model prog w) A (getItem (.ref t) (.ref sl)) Q E s := by
  have htake : sizeOk (.seq (stepL its lo st).toArray) := by
    show (stepL its lo st).toArray.size ≤ sizeLine
    rw [List.size_toArray]
    exact hsz
  obtain ⟨os, hos, hcs, hds⟩ := id hs
  have hTs : s.TypeIs (.ref sl) "slice" := ⟨os, hos, hcs⟩
  unfold getItem
  try with_reducible refine wpAny_holding ?_
  first | refine wpAny_bind (wpAny_pure ?_) | skip
  refine wpAny_bind (wpAny_sequenceKey ht.typeIs (by decide) ?_)
  refine wpAny_bind (wpAny_callSpecial?_slot (name := Str.ofString "__getitem__") ht.typeIs PyProof.Rows.slot_tuple_getitem
    (wpAny_call_entry PyProof.Rows.slot_tuple_getitem ht.typeIs entry_tuple_getitem ?_ (args_tuple_getitem _ _)))
  show wpAny _ _ (Builtin.Tuple.tupleItemsOf (.ref t) >>= _) _ _ s
  refine wpAny_bind (tupleItemsOf_ ht ?_)
  refine wpAny_bind (wpAny_typeOf hTs ?_)
  rw [if_pos (by decide)]
  have happ : ∀ (Q' : Int × Int × Nat → Shared → Prop), Q' ((Builtin.Slice.sliceAdjust lo none st its.length).1, st, Builtin.Slice.slicePlaces (Builtin.Slice.sliceAdjust lo none st its.length).1 (Builtin.Slice.sliceAdjust lo none st its.length).2 st) s →
      wpAny (model prog w) A.in1 (Builtin.Slice.sliceApplied (.ref sl) (pure (its.toArray.size : Int))) Q' E s := by
    intro Q' hq
    unfold Builtin.Slice.sliceApplied Builtin.Slice.sliceFields
    refine wpAny_bind (wpAny_bind (wpAny_field hos hds (x := vl) rfl (wpAny_bind (wpAny_field hos hds (x := .none) rfl (wpAny_bind (wpAny_field hos hds (x := .int st tst) rfl (wpAny_pure ?_)))))))
    refine wpAny_bind (slicePart_int ?_)
    show wpAny _ _ (if (st == 0) = true then _ else _) _ _ s
    rw [if_neg (by simpa using h0)]
    refine wpAny_bind (slicePart_ pl (wpAny_bind (slicePart_none (wpAny_bind (wpAny_pure ?_)))))
    show wpAny _ _ (match Builtin.Slice.sliceAdjust lo none st (its.toArray.size : Int) with | (lo, hi) => pure (lo, st, Builtin.Slice.slicePlaces lo hi st)) _ _ s
    rw [List.size_toArray]
    exact wpAny_pure hq
  refine wpAny_bind (happ _ ?_)
  have hno : ¬ (((Builtin.Slice.sliceAdjust lo none st its.length).1 == 0 && st == 1 && (Builtin.Slice.slicePlaces (Builtin.Slice.sliceAdjust lo none st its.length).1 (Builtin.Slice.sliceAdjust lo none st its.length).2 st) == its.toArray.size) = true) := by
    intro q
    rw [Bool.and_eq_true, Bool.and_eq_true] at q
    exact h1 (eq_of_beq q.1.2)
  show wpAny _ _ (if ((Builtin.Slice.sliceAdjust lo none st its.length).1 == 0 && st == 1 && (Builtin.Slice.slicePlaces (Builtin.Slice.sliceAdjust lo none st its.length).1 (Builtin.Slice.sliceAdjust lo none st its.length).2 st) == its.toArray.size) = true then _ else _) _ _ s
  rw [if_neg hno]
  have epick : ((List.range (Builtin.Slice.slicePlaces (Builtin.Slice.sliceAdjust lo none st its.length).1 (Builtin.Slice.sliceAdjust lo none st its.length).2 st)).filterMap fun (k : Nat) => its.toArray[((Builtin.Slice.sliceAdjust lo none st its.length).1 + (k : Int) * st).toNat]?).toArray = (stepL its lo st).toArray := by
    unfold stepL
    simp
  rw [epick]
  first
    | exact wpAny_bind (m := Builtin.Tuple.tupleExact _) (wpAny_newObj_type (wpAny_pure ⟨_, rfl, wpAny_pure h⟩) htake)
    | exact wpAny_bind (m := Builtin.Tuple.tupleExact _) (wpAny_newObj_type (wpAny_bind (wpAny_pure (wpAny_pure ⟨_, rfl, wpAny_pure h⟩))) htake)
    | exact wpAny_bind (wpAny_bind (m := Builtin.Tuple.tupleExact _) (wpAny_newObj_type (wpAny_pure (wpAny_pure ⟨_, rfl, wpAny_pure h⟩)) htake))
    | exact wpAny_bind (wpAny_bind (m := Builtin.Tuple.tupleExact _) (wpAny_newObj_type (wpAny_pure ⟨_, rfl, wpAny_pure h⟩) htake))
theorem vals_pick {xs : List V} {its : List Value} (r : Vals xs its) (f : Nat → Nat) : ∀ ks : List Nat, Vals (ks.filterMap fun k => xs[f k]?) (ks.filterMap fun k => its[f k]?) := by
  intro ks
  induction ks with
  | nil => exact .nil
  | cons k ks ih =>
    rw [List.filterMap_cons, List.filterMap_cons]
    cases h : xs[f k]? with
    | none =>
      rw [r.none_of h]
      exact ih
    | some x =>
      obtain ⟨u, h1, h2⟩ := r.get h
      rw [h1]
      exact .cons h2 ih
theorem stepL_len {α β : Type} (xs : List α) (ys : List β) (h : xs.length = ys.length) (lo : Option Int) (st : Int) : (stepL xs lo st).length = (stepL ys lo st).length := by
  unfold stepL
  rw [h]
  generalize List.range _ = ks
  induction ks with
  | nil => rfl
  | cons k ks ih =>
    rw [List.filterMap_cons, List.filterMap_cons]
    generalize ((Builtin.Slice.sliceAdjust lo none st ↑ys.length).1 + (k : Int) * st).toNat = m
    by_cases hm : m < ys.length
    · rw [List.getElem?_eq_getElem hm, List.getElem?_eq_getElem (by omega)]
      simp [ih]
    · rw [List.getElem?_eq_none (by omega), List.getElem?_eq_none (by omega)]
      exact ih
theorem pe_stepT {e st : Expr} {lower : Option Expr} {tl : TO} {ts : TE} {p3 pos : Pos} (he : PE X e te) (hl : PO X lower tl) (hst : PE X st ts)
    (hsub : ∀ o i, subscripted (.Slice lower none (some st) p3) false o i = operate [o, i] (getItem o i) := by with_unfolding_all intro o i; rfl) :
    PE X (.Subscript e (.Slice lower none (some st) p3) pos) (tStepT X.K te tl ts) := by
  refine ⟨fun pins s σ H Q I h => ?_⟩
  refine Subscript_ (thn (he.run pins s σ H _ I h) fun v s1 ⟨x, H1, I1, r1, q1⟩ => ?_)
  refine wpAny_Slice (thn (hl.run pins s1 σ H1 _ I1 q1) fun vl s2 ⟨l, H2, I2, pl, q2⟩ => ?_)
  refine thn (po_none.run pins s2 σ H2 (fun o H3 => o = none ∧ H3 = H2) I2 ⟨rfl, rfl⟩) fun vu s3 ⟨u, H3, I3, pu, eu, e3⟩ => ?_
  subst eu e3
  refine thn (hst.run pins s3 σ H3 _ I3 q2) fun vs s4 ⟨o, H4, I4, rs, a, xs, st', e1, e2, hx, h0, h1, hz, q⟩ => ?_
  subst e1 e2
  cases r1
  obtain ⟨tk, rfl⟩ := rs
  cases pu
  have I5 : Inv X pins σ H4 { s4 with heap := s4.heap.push { cls := .type "slice", data := .fields #[vl, .none, .int st' tk] } } := I4.kept (t' := s4.toks) fun b ob q => Heap.get?_push_of_some _ q
  obtain ⟨its, r, ht, _⟩ := I5.tuple hx
  have hlen := r.length
  have e9 := stepL_len xs its hlen l st'
  show wpAny (model X.prog X.w) X.A (subscriptTail e (.Slice lower none (some st) p3) (.ref a) (.ref s4.heap.objs.size)) (EP X pins σ Q) X.xe { s4 with heap := s4.heap.push { cls := .type "slice", data := .fields #[vl, .none, .int st' tk] } }
  refine tail_any (ops := [.ref a, .ref s4.heap.objs.size]) ht.typeIs (slot_tuple_getitem.lookup) ?_ (hsub _ _)
  refine getItem_tuple_step ht (Heap.IsSliceOf.new _ vl .none (.int st' tk)) pl h0 h1 ?_ (by rw [← e9]; exact Evl.sz_of hz)
  refine ⟨.ref _, _, I5.laid (t' := s4.toks) (o := .tup (stepL xs l st')) (fun b ob q => Heap.get?_push_of_some _ q) (Nat.le_refl _) ?_, rfl, q _ (I5.hok.fresh (Nat.le_refl _))⟩
  refine ⟨Evl.sz_of hz, stepL its l st', ?_, IsTup.new _ _⟩
  unfold stepL
  rw [hlen]
  exact vals_pick r _ _
/-! ### min of a tuple -/
def rMinT (K : PySem.W.Frag) : List V → Hp → VK → Prop := fun vs H Q => ∃ (a : Addr) (ns : List Int), vs = [V.ref a] ∧ SqT K H a (ns.map V.int) ∧ 0 < ns.length ∧ ∀ m, m ∈ ns → (∀ y, y ∈ ns → m ≤ y) → Q (.int m) H
theorem min_rawT {prog : Program} {w : World} {A : Around} {E : Value → Shared → Prop} {s : Shared} {l : Addr} {its : List Value} {ns : List Int} {Q : Value → Shared → Prop} (hh : A.handled = none) (hl : IsTup s.heap l its.toArray) (hi : IntsAre its ns) (hne : 0 < ns.length)
    (h : ∀ h' tk M t', (∀ b o, s.heap.get? b = some o → h'.get? b = some o) → M ∈ ns → (∀ a, a ∈ ns → M ≤ a) → Q (.int M t') { s with heap := h', toks := tk }) : wpAny (model prog w) A (call (.builtin "min") [.ref l]) Q E s := by
  obtain ⟨xs, e⟩ := hi.allInts.items
  have hn : numsOf (intItems xs).toList = ns := by rw [← e]; exact hi.numsOf
  rw [nums_intItems] at hn
  subst hn
  rw [e] at hl
  have hsz : 0 < xs.size := by simpa using hne
  have hlt : l < s.heap.objs.size := let ⟨o, ho, _⟩ := hl; Heap.lt_size ho
  refine call_min_walk (wpAny_pyIter_tuple hl ?_)
  refine ⟨_, [_, l], _, _, _, _, _, rfl, Walks.tuple (A := A.in1) hh _ l (Nat.ne_of_lt hlt) (intItems xs), ⟨⟨_, Heap.get?_push_size _ rfl, rfl, rfl⟩, hl.push _⟩, fun c hc => ?_, by simpa [intItems] using hsz, CmpOf.ints_lt (numAt xs) (fun _ _ => intItems_at), fun v h' tk hP hk => ?_⟩
  · show c < (s.heap.push _).objs.size
    rw [Heap.size_push]
    rcases List.mem_cons.mp hc with rfl | hc
    · exact Nat.lt_succ_self _
    · rcases List.mem_cons.mp hc with rfl | hc
      · exact Nat.lt_succ_of_lt hlt
      · cases hc
  · have hv : (intItems xs)[argBest (fun i j => decide (numAt xs i < numAt xs j)) (xs.size - 1)]? = some v := by simpa [intItems] using hP
    obtain ⟨t, rfl⟩ := intItems_at hv
    obtain ⟨h1, h2⟩ := argBest_lt (numAt xs) (xs.size - 1)
    refine h h' tk _ t (fun b o e => hk b o ?_ (Heap.get?_push_of_some _ e)) ?_ fun a ha => ?_
    · simp only [List.mem_singleton]
      exact Nat.ne_of_lt (Heap.lt_size e)
    · rw [numAt_eq]; exact PySem.getD_mem (by rw [List.length_map, Array.length_toList]; omega)
    · obtain ⟨j, hj, rfl⟩ := mem_getD ha
      rw [List.length_map, Array.length_toList] at hj
      rw [← numAt_eq]; exact h2 j (by omega)
theorem cr_minT (hc : X.calm = true) : CallR X (.builtin "min") (rMinT X.K) := by
  intro pins s σ H vs us Q I r h
  obtain ⟨a, ns, rfl, hs, hne, q⟩ := h
  obtain ⟨its, rv, hl, _⟩ := I.tuple hs
  rw [Vals.ref1 r]
  exact min_rawT (I.ok.hd hc) hl rv.ints hne fun h' tk m t' hk h1 h2 => ⟨.int _, H, I.kept hk, ⟨_, rfl⟩, q m h1 h2⟩
end
/-! ### sum of lists -/
section
variable {prog : Program} {w : World} {A : Around} {I : Addr} {fp wr : List Addr} {n : Nat} {P : Nat → Value → Prop} {St : Nat → Heap → Prop}
theorem args_sum2 (a b : Value) : argsOk "sum" ⟨[a, b], []⟩ := by unfold argsOk; kernel_rfl
/-- the items' lists, in the heap h -/
def SumL (h : Heap) (P : Nat → Value → Prop) (n : Nat) (f : Nat → List Value) : Prop := ∀ i v, P i v → ∃ (b : Addr) (m : Nat), v = .ref b ∧ h.get? b = some { cls := .type "list", data := .seq (f i).toArray m }
def preL (f : Nat → List Value) : Nat → List Value
  | 0 => []
  | j + 1 => preL f j ++ f j
theorem codeAny_sum_lists {R : Result → Shared → Prop} {h0 : Heap} {f : Nat → List Value} (W : Walks prog w A.in1 I fp wr n P St) (S : Addr) (hfS : ∀ b ∈ fp, b < S) (hS0 : h0.get? S = none) (hw0 : ∀ b ∈ wr, h0.get? b = none) (hv : SumL h0 P n f) (hz : ∀ j ≤ n, (preL f j).length ≤ 100000) :
    ∀ (k i : Nat) (s : Shared) (a : Addr) (m c : Nat), n - i = k → i ≤ n → St i s.heap → (∀ b o, h0.get? b = some o → s.heap.get? b = some o) → a ≠ S → a ∉ wr → (i = 0 ∨ S < a) → s.heap.get? a = some { cls := .type "list", data := .seq (preL f i).toArray m } →
    s.heap.get? S = some { cls := .type "list", dict := none, data := .seq #[.ref a] c, slots := #[] } →
    (∀ h' tk a' m', (∀ b o, h0.get? b = some o → h'.get? b = some o) → h'.get? a' = some { cls := .type "list", data := .seq (preL f n).toArray m' } → (n = 0 ∨ S < a') → R (.ok (.ret (.ref a'))) { s with heap := h', toks := tk }) →
    codeAny (model prog w) A (.builtin "sum.loop" ⟨[.ref I, .ref S, rawInt 2, rawInt 0], []⟩) R s := by
  have hSf : S ∉ fp := fun h => Nat.lt_irrefl _ (hfS _ h)
  have hSw : S ∉ wr := fun h => hSf (W.sub _ h)
  intro k
  induction k with
  | zero =>
    intro i s a m c hk hi hst hk0 haS haw haf ha hS hR
    have hin : i = n := by omega
    subst hin
    refine codeAny_builtin F.entry_sum_loop ?_
    rw [Around.under_plainId F.plain_sum_loop _]
    show wpAny _ A.in1 (seqItems? (.ref S) >>= _) _ _ s
    refine wpAny_bind (wpAny_seqItems hS rfl ?_)
    show wpAny _ A.in1 (tryCatch (pyNext (.ref I)) _ >>= _) _ _ s
    refine wpAny_bind (wpAny_tryCatch (W.done s _ _ hst fun h' tk hk' => ?_))
    exact wpAny_pure (hR h' tk a m (fun b o e => hk' b o (fun hb => by rw [hw0 b hb] at e; cases e) (hk0 b o e)) (hk' a _ haw ha) haf)
  | succ k ih =>
    intro i s a m c hk hi hst hk0 haS haw haf ha hS hR
    have hlt : i < n := by omega
    refine codeAny_builtin F.entry_sum_loop ?_
    rw [Around.under_plainId F.plain_sum_loop _]
    show wpAny _ A.in1 (seqItems? (.ref S) >>= _) _ _ s
    refine wpAny_bind (wpAny_seqItems hS rfl ?_)
    show wpAny _ A.in1 (tryCatch (pyNext (.ref I)) _ >>= _) _ _ s
    refine wpAny_bind (wpAny_tryCatch (W.item i s _ _ hlt hst fun v h' tk hP hst' hk' => ?_))
    obtain ⟨b, mb, rfl, hb⟩ := hv i v hP
    have hb' : h'.get? b = some { cls := .type "list", data := .seq (f i).toArray mb } := hk' b _ (fun hbw => by rw [hw0 b hbw] at hb; cases hb) (hk0 b _ hb)
    have ha' := hk' a _ haw ha
    have hS' := hk' S _ hSw hS
    have hlen : (preL f (i + 1)).length = (preL f i).length + (f i).length := by
      show (preL f i ++ f i).length = _
      rw [List.length_append]
    have hz1 := hz (i + 1) hlt
    have hsz := sizeLine_eq
    show wpAny _ A.in1 ((holding [Value.ref b] (binaryOp .Add (.ref a) (.ref b))).attempt >>= _) _ _ _
    refine wpAny_bind (wpAny_attempt (wpAny_holding (PySem.P.add_list (n := m) (n2 := mb) ha' hb' ?_ (by rw [List.size_toArray, List.size_toArray]; omega))))
    have hSlt : S < h'.objs.size := Heap.lt_size hS'
    have hSp : (h'.push { cls := .type "list", data := .seq ((preL f i).toArray ++ (f i).toArray) }).get? S = some { cls := .type "list", dict := none, data := .seq #[.ref a] c, slots := #[] } := Heap.get?_push_of_some _ hS'
    show wpAny _ A.in1 (updateSeq S (fun _ => #[.ref h'.objs.size]) >>= _) _ _ _
    refine wpAny_bind (wpAny_updateSeq hSp rfl ?_)
    have hS₂ := Heap.get?_update_self (Obj.mapSeq fun _ => #[Value.ref h'.objs.size]) hSp rfl
    refine wpAny_bind (wpAny_letGo ?_)
    refine wpAny_bind (wpAny_updateSeq hS₂ rfl ?_)
    have hnew : (h'.push { cls := .type "list", data := .seq ((preL f i).toArray ++ (f i).toArray) }).get? h'.objs.size = some { cls := .type "list", data := .seq (preL f (i + 1)).toArray 0 } := by
      have e : (preL f i).toArray ++ (f i).toArray = (preL f (i + 1)).toArray := by
        show _ = (preL f i ++ f i).toArray
        simp
      rw [e]
      exact Heap.get?_push_size _ rfl
    have hnS : S ≠ h'.objs.size := Nat.ne_of_lt hSlt
    have nw : h'.objs.size ∉ wr := fun h => Nat.lt_asymm hSlt (hfS _ (W.sub _ h))
    refine wpAny_pure ⟨plainId_quiet F.plain_sum_loop _, ih (i + 1) _ h'.objs.size 0 _ (by omega) hlt (W.frame _ _ _ hst' fun b hb o e => ?_) (fun b o e => ?_) (Ne.symm hnS) nw (Or.inr hSlt) ?_ (Heap.get?_update_self _ hS₂ rfl) fun h'' tk'' a'' m'' k1 k2 k3 => hR h'' tk'' a'' m'' k1 k2 k3⟩
    · exact (Heap.get?_update_other _ _ (fun h : S = b => hSf (by rw [h]; exact hb))).trans ((Heap.get?_update_other _ _ (fun h : S = b => hSf (by rw [h]; exact hb))).trans (Heap.get?_push_of_some _ e))
    · have nb : S ≠ b := fun h => by rw [← h, hS0] at e; cases e
      exact (Heap.get?_update_other _ _ nb).trans ((Heap.get?_update_other _ _ nb).trans (Heap.get?_push_of_some _ (hk' b o (fun hbw => by rw [hw0 b hbw] at e; cases e) (hk0 b o e))))
    · exact (Heap.get?_update_other _ _ hnS).trans ((Heap.get?_update_other _ _ hnS).trans hnew)
end
section
variable {prog : Program} {w : World} {A : Around} {E : Value → Shared → Prop} {s : Shared}
theorem sub_list_str : isSubtype (.type "list") (.type "str") = pure false := by rw [isSubtype_type]; kernel_rfl
theorem sub_list_bytes : isSubtype (.type "list") (.type "bytes") = pure false := by rw [isSubtype_type]; kernel_rfl
theorem sub_list_bytearray : isSubtype (.type "list") (.type "bytearray") = pure false := by rw [isSubtype_type]; kernel_rfl
theorem call_sum_lists {l b : Addr} {vs : List Value} {m0 : Nat} {f : Nat → List Value} {Q : Value → Shared → Prop} (hh : A.handled = none) (hl : s.heap.IsList l vs.toArray) (hb : s.heap.get? b = some { cls := .type "list", data := .seq #[] m0 }) (hn : 0 < vs.length)
    (hv : ∀ i v, vs[i]? = some v → ∃ (b : Addr) (m : Nat), v = .ref b ∧ s.heap.get? b = some { cls := .type "list", data := .seq (f i).toArray m }) (hz : ∀ j ≤ vs.length, (preL f j).length ≤ 100000)
    (hQ : ∀ h' tk a' m', (∀ b o, s.heap.get? b = some o → h'.get? b = some o) → h'.get? a' = some { cls := .type "list", data := .seq (preL f vs.length).toArray m' } → s.heap.objs.size ≤ a' → Q (.ref a') { s with heap := h', toks := tk }) :
    wpAny (model prog w) A (call (.builtin "sum") [.ref l, .ref b]) Q E s := by
  refine call_function_tree F.kind_sum F.plain_sum F.entry_sum (args_sum2 _ _) ?_
  unfold Builtin.«sum»
  simp only [List.length_cons, List.length_nil]
  rw [if_neg (by decide)]
  refine wpAny_bind (wpAny_of_eq (show Builtin.Builtins.bindParams "sum" ["start"] 0 { pos := [Value.ref b], kw := [] } = pure [some (.ref b)] from rfl) ?_)
  have hlt : l < s.heap.objs.size := let ⟨o, ho, _⟩ := hl; Heap.lt_size ho
  refine wpAny_bind (wpAny_pyIter_list hl ?_)
  refine wpAny_bind (wpAny_pure ?_)
  have hb1 : (s.heap.push { cls := .type "list_iterator", data := .fields #[.ref l, .int 0 0] }).get? b = some { cls := .type "list", data := .seq #[] m0 } := Heap.get?_push_of_some _ hb
  simp only [List.forIn_cons, List.forIn_nil]
  refine wpAny_bind (wpAny_bind (wpAny_bind (wpAny_isInstance (T := "list") (b := false) ⟨_, hb1, rfl⟩ sub_list_str ?_)))
  simp only [Bool.false_eq_true, if_false]
  refine wpAny_pure (wpAny_bind (wpAny_bind (wpAny_isInstance (T := "list") (b := false) ⟨_, hb1, rfl⟩ sub_list_bytes ?_)))
  simp only [Bool.false_eq_true, if_false]
  refine wpAny_pure (wpAny_bind (wpAny_bind (wpAny_isInstance (T := "list") (b := false) ⟨_, hb1, rfl⟩ sub_list_bytearray ?_)))
  simp only [Bool.false_eq_true, if_false]
  refine wpAny_pure (wpAny_pure ?_)
  refine wpAny_bind (wpAny_newObj_type ?_)
  have hp : (s.heap.push { cls := .type "list_iterator", data := .fields #[.ref l, .int 0 0] }).objs.size = s.heap.objs.size + 1 := Heap.size_push ..
  have hp1 : s.heap.objs.size < (s.heap.push { cls := .type "list_iterator", data := .fields #[.ref l, .int 0 0] }).objs.size := by rw [hp]; exact Nat.lt_succ_self _
  refine wpAny_pure ⟨plainId_quiet F.plain_sum_loop _, codeAny_sum_lists (h0 := s.heap) (f := f) (Walks.list (A := A.in1) hh s.heap.objs.size l (Nat.ne_of_lt hlt) vs.toArray) (s.heap.push { cls := .type "list_iterator", data := .fields #[.ref l, .int 0 0] }).objs.size (fun c hc => ?_) ?_ (fun c hc => ?_)
    (fun i v e => ?_) (fun j hj => hz j (by simpa using hj)) _ 0 _ b m0 0 rfl (Nat.zero_le _) ⟨⟨_, Heap.get?_push_of_some _ (Heap.get?_push_size _ rfl), rfl, rfl⟩, (hl.push _).push _⟩ (fun c o e => Heap.get?_push_of_some _ (Heap.get?_push_of_some _ e)) ?_ ?_ (Or.inl rfl) (Heap.get?_push_of_some _ hb1) (Heap.get?_push_size _ rfl) fun h' tk a' m' k1 k2 k3 => ?_⟩
  · rcases List.mem_cons.mp hc with rfl | hc
    · exact hp1
    · rcases List.mem_cons.mp hc with rfl | hc
      · exact Nat.lt_trans hlt hp1
      · cases hc
  · cases hg : s.heap.get? (s.heap.push { cls := .type "list_iterator", data := .fields #[.ref l, .int 0 0] }).objs.size with
    | none => rfl
    | some o => exact absurd (Heap.lt_size hg) (Nat.not_lt.mpr (Nat.le_of_lt hp1))
  · have : c = s.heap.objs.size := by simpa using hc
    subst this
    cases hg : s.heap.get? s.heap.objs.size with
    | none => rfl
    | some o => exact absurd (Heap.lt_size hg) (Nat.lt_irrefl _)
  · exact hv i v (by simpa using e)
  · exact Nat.ne_of_lt (Heap.lt_size hb1)
  · simp only [List.mem_singleton]
    exact Nat.ne_of_lt (Heap.lt_size hb)
  · have e : vs.toArray.size = vs.length := by simp
    rw [e] at k2 k3
    refine hQ h' tk a' m' k1 k2 ?_
    rcases k3 with z | z
    · omega
    · exact Nat.le_of_lt (Nat.lt_trans hp1 z)
/-- sum(xs, []), xs a list of lists, not empty -/
def rSumL (K : PySem.W.Frag) : List V → Hp → VK → Prop := fun vs H Q => ∃ (a b : Addr) (ps : List Addr) (xss : List (List V)), vs = [V.ref a, V.ref b] ∧ SqL K H a (ps.map V.ref) ∧ H b = some (.lst []) ∧ ps ≠ [] ∧ ps.length = xss.length ∧ (∀ (i : Nat) p xs, ps[i]? = some p → xss[i]? = some xs → H p = some (.lst xs)) ∧ xss.flatten.length ≤ 100000 ∧
  ∀ p, H p = none → Q (.ref p) (upd H p (.lst xss.flatten))
end
section
variable {X : Cx}
theorem cr_sumL (hc : X.calm = true) : CallR X (.builtin "sum") (rSumL X.K) := by
  intro pins s σ H vs us Q I r h
  obtain ⟨a, b, ps, xss, rfl, hs, hb, hne, hl, hx, hz, q⟩ := h
  obtain ⟨u1, u2, rfl, r1, r2⟩ := Vals.two r
  cases r1
  cases r2
  obtain ⟨its, rv, hL, _⟩ := I.list hs
  have hlen : its.length = xss.length := by rw [← rv.length, List.length_map]; exact hl
  obtain ⟨z0, i0, m0, r0, hl0, e0⟩ := I.lstM hb
  have hi0 : i0 = [] := by cases r0; rfl
  subst hi0
  have hpl : ∀ i : Nat, ∃ ws : List Value, ∀ xs, xss[i]? = some xs → Vals xs ws ∧ ∀ v, its[i]? = some v → ∃ (b : Addr) (m : Nat), v = .ref b ∧ s.heap.get? b = some { cls := .type "list", data := .seq ws.toArray m } := by
    intro i
    cases hi : xss[i]? with
    | none => exact ⟨[], fun xs e => by cases e⟩
    | some xs =>
      have hlt : i < ps.length := by rw [hl]; exact (List.getElem?_eq_some_iff.mp hi).1
      obtain ⟨z, ws, m, rw', hl', e'⟩ := I.lstM (hx i _ xs (List.getElem?_eq_getElem hlt) hi)
      obtain ⟨w, hw, rw2⟩ := rv.get (i := i) (x := .ref ps[i]) (by simp [hlt])
      exact ⟨ws, fun xs' e => by cases e; exact ⟨rw', fun v hv => by rw [hw] at hv; cases hv; cases rw2; exact ⟨_, m, rfl, e'⟩⟩⟩
  obtain ⟨f, hf⟩ := Classical.skolem.mp hpl
  have key : ∀ j, j ≤ xss.length → Vals (xss.take j).flatten (preL f j) := by
    intro j
    induction j with
    | zero => intro _; exact .nil
    | succ j ih =>
      intro hj
      have hlt : j < xss.length := by omega
      rw [List.take_succ, List.getElem?_eq_getElem hlt, List.flatten_append]
      refine (ih (by omega)).append ?_
      simp only [Option.toList_some, List.flatten_cons, List.flatten_nil, List.append_nil]
      exact (hf j _ (List.getElem?_eq_getElem hlt)).1
  have flen : ∀ j, ((xss.take j).flatten).length ≤ xss.flatten.length := by
    intro j
    have e : xss.flatten = (xss.take j).flatten ++ (xss.drop j).flatten := by
      rw [← List.flatten_append, List.take_append_drop]
    rw [e, List.length_append]
    omega
  refine call_sum_lists (f := f) (I.ok.hd hc) hL.isList e0 (by rw [hlen, ← hl]; exact List.length_pos_iff.mpr hne) (fun i v e => ?_) (fun j hj => ?_) fun h' tk a' m' k1 k2 k3 => ?_
  · have hlt : i < xss.length := by rw [← hlen]; exact (List.getElem?_eq_some_iff.mp e).1
    exact (hf i _ (List.getElem?_eq_getElem hlt)).2 v e
  · have := (key j (by omega)).length
    have := flen j
    omega
  · have kl := key xss.length (Nat.le_refl _)
    rw [List.take_length] at kl
    rw [hlen] at k2
    exact ⟨.ref a', upd H a' (.lst xss.flatten), I.laid (t' := tk) k1 k3 ⟨Evl.sz_of hz, _, m', kl, k2⟩, rfl, q a' (I.hok.fresh k3)⟩
end
end L2
namespace DL
open PySem PySem.Spec PyProof.Rows L2
section
variable {T : Tb} {K : PySem.W.Frag} {E : XK} {g g' : G} {r r' r1 r2 r3 : Rs} {ta tb tc te ts : TE} {t : TT} {x y z d : D} {ds es xs : List D} {tas : TA} {i j k : Nat}
/-- tuple(xs) of a list -/
theorem ev_tupX (h : Ev T K ta g r x r1) (hv : Vl x r1 ds) : Ev T K (tThen ta (kTupX K)) g r (.tux ds) r1 := fun rf Hs H σ s Q q => h rf Hs H σ s _ fun v Hs1 H1 e s1 ru => by
  obtain ⟨a, xs, rfl, h1, h2⟩ := hv.at s1 ru
  refine ⟨a, xs, rfl, Evl.sq_of h1, fun p o hp ho => ?_⟩
  obtain ⟨s2, e2⟩ := s1.alloc (o := .frz o (.tup xs)) hp True.intro
  exact q _ _ _ (e.trans e2) s2 (.tux upd_same ho (DRs.mono e2 _ h2))
def rg3D (i c : Int) (n : Nat) : List D := (List.range n).map fun (m : Nat) => D.int (i + (m : Int) * c)
theorem ev_tupRg3 {a b c : Int} {n : Nat} (h : EvA T K tas g r [.int a, .int b, .int c] r1) (hr : RgC a b c n) (hn : n ≤ 100000) : Ev T K (tTupRg3 tas) g r (.tup (rg3D a c n)) r1 := fun rf Hs H σ s Q q => h rf Hs H σ s _ fun vs Hs1 H1 e s1 rvs => by
  cases rvs with
  | cons q1 q2 =>
    obtain ⟨v2, v3, rfl, q3, q4⟩ := q2.two
    cases q1
    cases q3
    cases q4
    refine ⟨a, b, c, n, rfl, hr, hn, fun p hp => ?_⟩
    obtain ⟨s2, e2⟩ := s1.alloc (o := .tup ((List.range n).map fun (m : Nat) => V.int (a + (m : Int) * c))) hp True.intro
    have key : ∀ (Hh : Hp) (l : List Nat), DRs K Hh (l.map fun (m : Nat) => V.int (a + (m : Int) * c)) (l.map fun (m : Nat) => D.int (a + (m : Int) * c)) := by
      intro Hh l
      induction l with
      | nil => exact .nil
      | cons m l ih => exact .cons (.int _) ih
    exact q _ _ _ (e.trans e2) s2 (.tup (Evl.st_of upd_same) (key _ _))
theorem DRs.step {Hs : Hp} {vs : List V} {lo : Option Int} {st : Int} (h : DRs K Hs vs ds) : DRs K Hs (stepL vs lo st) (stepL ds lo st) := by
  unfold stepL
  rw [h.length]
  generalize List.range _ = ks
  induction ks with
  | nil => exact .nil
  | cons k ks ih =>
    rw [List.filterMap_cons, List.filterMap_cons]
    generalize ((Builtin.Slice.sliceAdjust lo none st ↑ds.length).1 + (k : Int) * st).toNat = m
    cases hm : ds[m]? with
    | none =>
      have hl : vs[m]? = none := by
        rw [List.getElem?_eq_none_iff] at hm ⊢
        rw [h.length]
        exact hm
      rw [hl]
      exact ih
    | some d =>
      obtain ⟨v, h1, h2⟩ := h.get hm
      rw [h1]
      exact .cons h2 ih
theorem ev_stepT {tl : TO} {lo : Option Int} {st : Int} (h : Ev T K te g r (.tup ds) r1) (h1 : EvO T K tl g r1 lo r2) (h2 : Ev T K ts g r2 (.int st) r3) (h3 : st ≠ 0 ∧ st ≠ 1) (hz : (stepL ds lo st).length ≤ 100000) : Ev T K (tStepT K te tl ts) g r (.tup (stepL ds lo st)) r3 := fun rf Hs H σ s Q q =>
  h rf Hs H σ s _ fun v Hs1 H1 e1 s1 rv => h1 rf Hs1 H1 σ s1 _ fun Hs2 H2 e2 s2 => h2 rf Hs2 H2 σ s2 _ fun w Hs3 H3 e3 s3 rw' => by
    cases rw'
    obtain ⟨a, xs, rfl, a1, a2⟩ := (DR.mono (e2.trans e3) _ rv).tupI
    refine ⟨a, xs, st, rfl, rfl, s3.ex.st a1, h3.1, h3.2, by rw [(a2.step).length]; exact hz, fun p hp => ?_⟩
    obtain ⟨s4, e4⟩ := s3.alloc (o := .tup (stepL xs lo st)) hp True.intro
    exact q _ _ _ (((e1.trans e2).trans e3).trans e4) s4 (.tup (Evl.st_of upd_same) (DRs.mono e4 _ a2.step))
/-- the least -/
def minI : List Int → Int
  | [] => 0
  | [a] => a
  | a :: b :: l => min a (minI (b :: l))
theorem minI_mem : ∀ {l : List Int}, l ≠ [] → minI l ∈ l
  | [a], _ => by simp [minI]
  | a :: b :: l, _ => by
    have ih := minI_mem (l := b :: l) (by simp)
    show min a (minI (b :: l)) ∈ _
    by_cases h : a ≤ minI (b :: l)
    · rw [Int.min_eq_left h]; simp
    · rw [Int.min_eq_right (by omega)]; exact List.mem_cons_of_mem _ ih
theorem minI_le : ∀ {l : List Int} {y : Int}, y ∈ l → minI l ≤ y
  | [a], y, h => by simp at h; subst h; exact Int.le_refl _
  | a :: b :: l, y, h => by
    show min a (minI (b :: l)) ≤ y
    rcases List.mem_cons.mp h with z | z
    · subst z; exact Int.min_le_left _ _
    · exact Int.le_trans (Int.min_le_right _ _) (minI_le z)
theorem ca_minT {ns : List Int} (h0 : ns ≠ []) : CaD T K (rMinT K) [.tup (ns.map D.int)] g r (.int (minI ns)) r := fun rf Hs H σ us s ru Q q => by
  obtain ⟨v, rfl, rv⟩ := ru.one
  obtain ⟨a, xs, rfl, h1, h2⟩ := rv.tupI
  have e := DRs.ints_inv h2
  subst e
  refine ⟨a, ns, rfl, s.ex.st h1, List.length_pos_iff.mpr h0, fun m hm hl => ?_⟩
  have : m = minI ns := Int.le_antisymm (hl _ (minI_mem h0)) (minI_le hm)
  subst this
  exact q _ _ _ (Ext.refl _) s (.int _)
theorem en_sumL {dss : List (List D)} (h : EvA T K tas g r [x, .lst []] r1) (hv : Vl x r1 (dss.map D.lst)) (h0 : dss ≠ []) (hz : dss.flatten.length ≤ 100000) : EvN T K (tCB (rSumL K) tas) g r dss.flatten r1 := fun rf Hs H σ s Q q => h rf Hs H σ s _ fun vs Hs1 H1 e s1 rvs => by
  obtain ⟨v, w, rfl, rv, rw'⟩ := rvs.two
  obtain ⟨a, xs, rfl, h1, h2⟩ := hv.at s1 rv
  cases rw' with
  | @lst b ys _ b1 b2 =>
    cases b2
    have inv : ∀ (ds : List (List D)) (xs : List V), DRs K Hs1 xs (ds.map D.lst) → ∃ (ps : List Addr) (xss : List (List V)), xs = ps.map V.ref ∧ ps.length = xss.length ∧ (∀ (i : Nat) p xs, ps[i]? = some p → xss[i]? = some xs → Hs1 p = some (.lst xs)) ∧ DRs K Hs1 xss.flatten ds.flatten := by
      intro ds
      induction ds with
      | nil => intro xs h; cases h; exact ⟨[], [], rfl, rfl, fun i p xs e => by simp at e, .nil⟩
      | cons d ds ih =>
        intro xs h
        cases h with
        | cons a1 a2 =>
          obtain ⟨ps, xss, e1, e2, e3, e4⟩ := ih _ a2
          cases a1 with
          | @lst p zs _ c1 c2 =>
            refine ⟨p :: ps, zs :: xss, by rw [e1]; rfl, by simp [e2], fun i p' xs' f1 f2 => ?_, ?_⟩
            · cases i with
              | zero => simp at f1 f2; subst f1; subst f2; exact c1
              | succ i => exact e3 i p' xs' (by simpa using f1) (by simpa using f2)
            · rw [List.flatten_cons, List.flatten_cons]; exact c2.append e4
    obtain ⟨ps, xss, e1, e2, e3, e4⟩ := inv dss xs h2
    subst e1
    have hl := h2.length
    rw [List.length_map, List.length_map] at hl
    refine ⟨a, b, ps, xss, rfl, Evl.sq_of h1, s1.ex.keep _ _ b1 (fun _ z => nomatch z), fun hz => h0 (by rw [hz] at hl; exact List.length_eq_zero_iff.mp hl.symm), e2, fun i p xs f1 f2 => s1.ex.keep _ _ (e3 i p xs f1 f2) (fun _ z => nomatch z), by rw [e4.length]; exact hz, fun p hp => ?_⟩
    exact q p Hs1 _ e (s1.own (o := .lst xss.flatten) hp True.intro (x := rl p dss.flatten) rfl ⟨_, upd_same, e4⟩)
end
end DL
/-! lambdas that capture nothing: made, kept in a list, called -/
namespace LmX
open PySem PySem.Spec PyProof.Rows L2 LamX NdefX DL
/-- H1 is H with a new lambda at f, its code object at c (new in the table at P, or known) -/
inductive Made (P : Addr) (I : LInfo) (f c : Addr) (H : Hp) : Hp → Prop
  | hit : H c = some (CodeO c I.q) → H f = none → Made P I f c H (upd H f (LO f c I))
  | new {ps more : Array Value} : H P = some (.tbl ps) → H c = none → H f = none → f ≠ c → f ≠ P → Made P I f c H (upd (upd (upd H P (.tbl (ps ++ more))) c (CodeO c I.q)) f (LO f c I))
section
variable {X : Cx} {pins : List (Addr × Obj)} {σ : L2.St} {H : Hp} {s : Shared}
theorem inv_lam {I : LInfo} {c : Addr} {o : Obj} {t' : Nat} {pm ctv : Value} (J : Inv X pins σ H s) (ho : o = PySem.W.kla_obj "<lambda>" I.q I.params I.body I.scope [] pm c ctv) :
    Inv X pins σ (upd H s.heap.objs.size (LO s.heap.objs.size c I)) { s with heap := s.heap.push o, toks := t' } := by
  subst ho
  refine J.laid (a := s.heap.objs.size) (fun b u e => Heap.get?_push_of_some _ e) (Nat.le_refl _) ?_
  have e : (s.heap.push (PySem.W.kla_obj "<lambda>" I.q I.params I.body I.scope [] pm c ctv)).get? s.heap.objs.size = some (PySem.W.kla_obj "<lambda>" I.q I.params I.body I.scope [] pm c ctv) := Heap.get?_push_size _ rfl
  exact ⟨⟨pm, ctv, e⟩, ⟨_, e⟩, fun h1 h2 ⟨p, t, z⟩ st => ⟨p, t, st _ z⟩⟩
theorem lam_made {T : List (Addr × Str)} {c P : Addr} {params : Arguments} {body : Expr} {scope : Scope} {pos : Pos} {E : Value → Shared → Prop} {Q : Value → Shared → Prop} (I : Inv X pins σ H s) (TB : LamX.TabB X.base X.mg c P) (hcode : X.env.code = .ref c)
    (hm : (P, X.env.qual ++ "<lambda>") ∈ T) (hu : ∀ p ∈ T, p.1 = P → p.2 = X.env.qual ++ "<lambda>") (hT : Tabs T H) (hdef : defaultsOf params X.env = ([], [])) (hfree : ∀ y ∈ scope.names, y.2 ≠ .free)
    (h : ∀ (f c' : Addr) (H1 : Hp) (s' : Shared), Inv X pins σ H1 s' → Made P ⟨X.env.qual ++ "<lambda>", params, body, scope⟩ f c' H H1 → Tabs T H1 → Q (.ref f) s') :
    wpAny (model X.prog X.w) X.A (eval (.Lambda params body scope pos) X.env) Q E s := by
  obtain ⟨ps, hP, ht, ha⟩ := hT _ hm
  refine PySem.W.kla_eval hdef ?_
  have bP : s.heap.BuiltinsAt X.mg P := TB.bm.keeps I.bk
  have hP' : s.heap.get? P = some { cls := .none, data := .fields ps } := I.hok P _ hP
  have hcl : cloFrom X.env.cells scope.names [] = [] := by
    generalize hn : scope.names = ns at hfree
    have : ∀ (l : List (Str × NameKind)) (acc : List (Str × Addr)), (∀ y ∈ l, y.2 ≠ .free) → cloFrom X.env.cells l acc = acc := by
      intro l
      induction l with
      | nil => intro acc _; rfl
      | cons y l ih =>
        obtain ⟨n, k⟩ := y
        intro acc hy
        unfold cloFrom
        have hk : ¬ (k == NameKind.free) = true := fun z => hy (n, k) List.mem_cons_self (by simpa using z)
        rw [if_neg hk]
        exact ih acc fun y hy' => hy y (List.mem_cons_of_mem _ hy')
    exact this ns [] hfree
  have hclo : closureFor scope X.env = pure [] := by
    have := closure_ok (env := X.env) (scope := scope) fun y hy e => absurd e (hfree y hy)
    rw [hcl] at this
    exact this
  cases hc : codeAmong pos ps.toList with
  | none =>
    refine PySem.W.kla_makeFunction (mg := X.mg) (c := c) (P := P) (ps := ps) hclo I.ok.glob (I.mod.glob.keeps I.bk) hcode (TB.code.keeps I.bk) hP' ht hc TB.gP bP fun c' ctv h' tk hx hge hlt hrec htb => ?_
    obtain ⟨c2, oc, vs, t, e2, hoc, hd, hv⟩ := hrec
    cases e2
    have nC : H c' = none := I.hok.fresh hge
    have hsz : s.heap.objs.size ≤ h'.objs.size := Nat.le_trans hge (Nat.le_of_lt hlt)
    have I1 := inv_table (t' := tk) (more := #[rawInt pos.line, rawInt pos.col, .ref c']) (h' := h') I hP (fun b o hb e => hx b o hb e) htb hge ⟨oc, vs, t, hoc, hd, hv⟩
    have I2 := inv_lam (I := ⟨X.env.qual ++ "<lambda>", params, body, scope⟩) (c := c') (t' := tk) (pm := (X.mg "__name__").getD .none) (ctv := ctv) I1 rfl
    have nF : H h'.objs.size = none := I.hok.fresh hsz
    have n1 : h'.objs.size ≠ c' := Nat.ne_of_gt hlt
    have n2 : h'.objs.size ≠ P := Nat.ne_of_gt (Nat.lt_of_lt_of_le (Heap.lt_size hP') hsz)
    have nPc : P ≠ c' := ne_of_none hP nC
    have eL : (ps ++ #[rawInt pos.line, rawInt pos.col, .ref c']).toList = ps.toList ++ [rawInt pos.line, rawInt pos.col, .ref c'] := by simp
    have hE : ∀ b o, H b = some o → (∀ ps, o ≠ .tbl ps) → upd (upd (upd H P (.tbl (ps ++ #[rawInt pos.line, rawInt pos.col, .ref c']))) c' (CodeO c' (X.env.qual ++ "<lambda>"))) h'.objs.size (LO h'.objs.size c' ⟨X.env.qual ++ "<lambda>", params, body, scope⟩) b = some o := fun b o e n => by
      rw [upd_ne (ne_of_none e nF), upd_ne (ne_of_none e nC), upd_ne (fun z => n ps (Option.some.inj (e.symm.trans (by rw [z]; exact hP))))]
      exact e
    refine h h'.objs.size c' _ _ I2 (.new hP nC nF n1 n2) fun p hp => ?_
    by_cases hb : p.1 = P
    · rw [hu p hp hb, hb]
      refine ⟨_, by rw [upd_ne (Ne.symm n2), upd_ne nPc, upd_same], by rw [eL]; exact PySem.TriplesOk_snoc _ _ _ _ ht, fun p' cv hcv => ?_⟩
      rw [eL] at hcv
      rcases among_app _ ht hcv with z | z
      · obtain ⟨c0, e1, e2⟩ := ha p' cv z
        exact ⟨c0, e1, hE _ _ e2 codeO_ne⟩
      · exact ⟨c', z, by rw [upd_ne (Ne.symm n1), upd_same]⟩
    · obtain ⟨ps', a1, a2, a3⟩ := hT p hp
      refine ⟨ps', by rw [upd_ne (ne_of_none a1 nF), upd_ne (ne_of_none a1 nC), upd_ne hb]; exact a1, a2, fun p' cv hcv => ?_⟩
      obtain ⟨c0, e1, e2⟩ := a3 p' cv hcv
      exact ⟨c0, e1, hE _ _ e2 codeO_ne⟩
  | some cv =>
    obtain ⟨c', e, hco⟩ := ha pos cv hc
    subst e
    refine PySem.W.kla_makeFunctionHit (mg := X.mg) (c := c) (P := P) (ps := ps) hclo I.ok.glob (I.mod.glob.keeps I.bk) hcode (TB.code.keeps I.bk) hP' ht hc bP fun ctv h' tk hx hsz => ?_
    have I1 : Inv X pins σ H { s with heap := h', toks := tk } := I.kept hx
    have nF : H h'.objs.size = none := I1.hok.fresh (Nat.le_refl _)
    have I2 := inv_lam (I := ⟨X.env.qual ++ "<lambda>", params, body, scope⟩) (c := c') (t' := tk) (pm := (X.mg "__name__").getD .none) (ctv := ctv) I1 rfl
    exact h h'.objs.size c' _ _ I2 (.hit hco nF) (hT.ext fun b o e => (upd_ne (ne_of_none e nF)).trans e)
/-- a lambda as a value -/
def tLamV (T : List (Addr × Str)) (P : Addr) (I : LInfo) : TE := fun σ H Q => Tabs T H ∧ ∀ f c H1, Made P I f c H H1 → Tabs T H1 → Q (.ref f) H1
theorem pe_lam {T : List (Addr × Str)} {c P : Addr} {params : Arguments} {body : Expr} {scope : Scope} {pos : Pos} {q : Str} (TB : LamX.TabB X.base X.mg c P) (hcode : X.env.code = .ref c) (hq : X.env.qual ++ "<lambda>" = q)
    (hm : (P, q) ∈ T) (hu : ∀ p ∈ T, p.1 = P → p.2 = q) (hdef : defaultsOf params X.env = ([], [])) (hfree : ∀ y ∈ scope.names, y.2 ≠ .free) : PE X (.Lambda params body scope pos) (tLamV T P ⟨q, params, body, scope⟩) := by
  subst hq
  refine ⟨fun pins s σ H Q I h => ?_⟩
  obtain ⟨hT, h⟩ := h
  exact lam_made I TB hcode hm hu hT hdef hfree fun f c' H1 s' I1 M T1 => ⟨.ref f, H1, I1, rfl, h f c' H1 M T1⟩
end
/-! ### its call -/
abbrev _root_.DL.LInfo.nf (I : LInfo) (c : Addr) : NF := ⟨"<lambda>", I.q, I.params, [], I.scope, [], c⟩
/-- the promise of a lambda: what its body gives -/
structure LmOk (P : Program) (w : World) (K : PySem.W.Frag) (mg : Str → Option Value) (base : Heap) (CX : CXT) (k : Nat) (I : LInfo) (sp : Hp → VK → XK → Prop) : Prop where
  run : ∀ (A : Around) (outer : List Env) (s : Shared) (H : Hp) (f c : Addr) (Q : VK) (E : XK), Room k A → Env0 P w K mg base A outer s H → H f = some (LO f c I) → H c = some (CodeO c I.q) → sp H Q E → codeAny (model P w) A (.call (.ref f) ⟨[], []⟩) (CR CX outer P w H s Q E) s
section
variable {CX : CXT} {P : Program} {w : World} {K : PySem.W.Frag} {mg : Str → Option Value} {base : Heap} {I : LInfo} {k j : Nat} {sp : Hp → VK → XK → Prop}
theorem lm_of (S : NScope [] [] [] I.scope) (hb : ∀ (c : Addr) (pm ctv : Value), bindArgs (PySem.W.kla_fn "<lambda>" I.q I.params I.body I.scope [] pm (.ref c) ctv) ⟨[], []⟩ = pure [])
    (hbody : ∀ (A : Around) (outer : List Env) (s : Shared) (H : Hp) (f c : Addr) (Q : VK) (E : XK), Room k (A.deeper (envF (I.nf c) f s.heap.objs.size)) → sp H Q E → ∃ t, PE (ncx CX P w K mg base [] (I.nf c) f A outer s H E) I.body t ∧ t [] H Q) : LmOk P w K mg base CX (k + 1) I sp := by
  refine ⟨fun A outer s H f c Q E hr e0 hf hc hsp => ?_⟩
  obtain ⟨⟨pm, ctv, ho⟩, _, _⟩ := e0.hok f _ hf
  have lim : s.heap.NoLimit := e0.mod.nolimit.keeps fun b o e => (e0.bs b o e).1
  refine PySem.W.kla_callFunE hr.depth ho rfl S.co S.gen rfl (codeO_at e0.hok hc) ?_
  rw [hb c pm ctv]
  refine wpAny_pure (wpAny_newFunctionEnv S.nocell (fun y hy => absurd hy (by simp)) (fun h₁ hns hsb => ⟨lim.fresh _ hsb, ?_⟩) S.kind)
  show codeAny _ _ (.expr I.body (envF (I.nf c) f s.heap.objs.size)) _ _
  have kp : ∀ b o, s.heap.get? b = some o → h₁.get? b = some o := fun b o e => hsb.extBut b o (Nat.ne_of_lt (Heap.lt_size e)) (Heap.get?_push_of_some _ e)
  obtain ⟨t, ht, hq⟩ := hbody A outer s H f c Q E (hr.deeper _) hsp
  have J : Inv (ncx CX P w K mg base [] (I.nf c) f A outer s H E) [] (startF [] [] []) H { s with heap := h₁, toks := s.toks + ([] : List (Str × Value)).length } :=
    inv_startN (ps := []) (fr := []) (us := []) S hr.hd e0 rfl .nil ⟨rfl, (fun y c e => by cases e), (fun x y c e => by cases e), (fun i y e => by simp at e)⟩ hns kp
  refine PySem.W.kla_codeExpr (wpAny_mono (ht.run [] _ _ H Q J hq) (fun v s' hq => ?_) fun e s' hq => hq)
  obtain ⟨w', H', J', rv, q⟩ := hq
  exact ⟨w', H', J'.os, J'.bare, J'.base, J'.hok, rv, q⟩
theorem LmOk.mono (o : LmOk P w K mg base CX j I sp) (h : j ≤ k) : LmOk P w K mg base CX k I sp := ⟨fun A outer s H f c Q E hr => o.run A outer s H f c Q E (hr.mono h)⟩
end
section
variable {X : Cx} {CX : CXT} {k i : Nat}
/-- a(), the slot i holds a lambda -/
def tActL (CX : CXT) (P : Program) (w : World) (K : PySem.W.Frag) (mg : Str → Option Value) (base : Heap) (k i : Nat) (E : XK) : TE := fun σ H Q => ∃ (f c : Addr) (I : LInfo) (sp : Hp → VK → XK → Prop), σ[i]? = some (some (.ref f)) ∧ H f = some (LO f c I) ∧ H c = some (CodeO c I.q) ∧ LmOk P w K mg base CX k I sp ∧ sp H Q E
theorem pe_actL {a : Str} {p1 p2 : Pos} {E : XK} (hN : X.N[i]? = some a) (hv : Vis X.env.scope a) (hr : Room k X.A) (hx : Passes CX X E) (hd : (a == ("__debug__" : Str)) = false := by decide) (hcd : (a == ("__classdict__" : Str)) = false := by decide) :
    PE X (.Call (.Name a p1) [] [] p2) (tActL CX X.prog X.w X.K X.mg X.base k i E) := by
  refine ⟨fun pins s σ H Q J h => ?_⟩
  obtain ⟨f, c, I, sp, h1, h2, h3, h4, h5⟩ := h
  refine wpAny_Call_Name_kw (thn ((pe_var (pos := p1) (i := i) hN hv hd hcd).run pins s σ H (fun v H1 => v = .ref f ∧ H1 = H) J ⟨.ref f, h1, rfl, rfl⟩) fun u s1 ⟨v, H1, J1, r1, ev, eH⟩ => ?_)
  subst ev
  subst eH
  obtain rfl : u = Value.ref f := r1
  obtain ⟨⟨pm, ctv, ho⟩, _, _⟩ := J1.hok f _ h2
  refine PySem.W.callWith_F0 ⟨_, _, _, _, ho⟩ ?_
  refine wpAny_call (codeAny_mono (h4.run X.A X.stack s1 H1 f c Q E hr J1.env0 h2 h3 h5) fun r s' hq => ?_)
  cases r with
  | error e => exact hx pins σ H1 s1 e s' J1 hq
  | ok fl =>
    cases fl with
    | ret u => exact J1.after hq
    | next => exact False.elim hq
    | brk => exact False.elim hq
    | cont => exact False.elim hq
end
end LmX
namespace DL
open PySem PySem.Spec PyProof.Rows L2 LamX LmX
section
variable {T : Tb} {K : PySem.W.Frag} {E : XK} {g g' : G} {r r' r1 r2 r3 : Rs} {ta tb tc te ts : TE} {t : TT} {x y z d : D} {ds es xs : List D} {tas : TA} {i j k : Nat} {O : Out}
theorem Made.ext {P : Addr} {I : LInfo} {f c : Addr} {H H1 : Hp} (m : Made P I f c H H1) (hP : (P, I.q) ∈ T.ls) (T1 : Tabs T.ls H1) : Ext T H H1 ∧ H1 f = some (LO f c I) ∧ H1 c = some (CodeO c I.q) ∧ H f = none := by
  cases m with
  | hit hc hf =>
    exact ⟨Ext.new hf, upd_same, (upd_ne (ne_of_none hc hf)).trans hc, hf⟩
  | @new ps more h1 hc hf n1 n2 =>
    refine ⟨⟨fun a o e n => ?_, fun a qs e => ?_, fun P' hP' ⟨qs, q1, q2⟩ => ?_, fun _ => T1⟩, upd_same, (upd_ne (Ne.symm n1)).trans upd_same, hf⟩
    · rw [upd_ne (ne_of_none e hf), upd_ne (ne_of_none e hc), upd_ne (fun z => n ps (Option.some.inj (e.symm.trans (by rw [z]; exact h1))))]
      exact e
    · by_cases z : a = P
      · subst z
        exact ⟨_, by rw [upd_ne (Ne.symm n2), upd_ne (ne_of_none h1 hc), upd_same]⟩
      · exact ⟨qs, by rw [upd_ne (ne_of_none e hf), upd_ne (ne_of_none e hc), upd_ne z]; exact e⟩
    · have z : P' ≠ P := Ne.symm (T.dj P' hP' _ hP)
      exact ⟨qs, by rw [upd_ne (ne_of_none q1 hf), upd_ne (ne_of_none q1 hc), upd_ne z]; exact q1, q2⟩
theorem SR.noext (s : ∃ Hs σ, SR T K Hs H σ g r) {c : Addr} {φ : Heap → Prop} (h : (H : Hp) c = some (.ext φ)) : c ∉ fps r := fun hc => by
  obtain ⟨Hs, σ, s⟩ := s
  obtain ⟨_, o, h1, h2⟩ := s.fr c hc
  rw [h] at h1
  cases h1
  exact h2
theorem ev_lam {P : Addr} {I : LInfo} (hP : (P, I.q) ∈ T.ls) : Ev T K (tLamV T.ls P I) g r (.lam I) r := fun rf Hs H σ s Q q => by
  refine ⟨s.wfH.l, fun f c H1 m T1 => ?_⟩
  obtain ⟨e1, h1, h2, h3⟩ := Made.ext m hP T1
  have s1 := s.grow e1
  obtain ⟨s2, e2⟩ := s1.adopt h2 codeO_ne (SR.noext ⟨_, _, s1⟩ h2)
  obtain ⟨s3, e3⟩ := s2.adopt h1 lo_ne (SR.noext ⟨_, _, s2⟩ h1)
  refine q _ _ _ (e2.trans e3) s3 (.lam upd_same (e3.keep _ _ upd_same codeO_ne))
/-- what a lambda's call ends in -/
def spL (T : Tb) (K : PySem.W.Frag) (o : Oc) : Hp → VK → XK → Prop := fun H Q E => ∃ (rf : Rs) (Hs : Hp), SR T K Hs H [] [] rf ∧
  (∀ d v Hs' H', o.ok d [] → Ext T Hs Hs' → SR T K Hs' H' [] [] rf → DR K Hs' v d → Q v H') ∧ (∀ C Hs' H', o.er C [] → Ext T Hs Hs' → SR T K Hs' H' [] [] rf → E (.ref C) none H')
/-- try: return what() / except x: return ret -/
theorem st_told {CX : CXT} {P : Program} {w : World} {mg : Str → Option Value} {base : Heap} {I : LInfo} {o : Oc} {CS : Addr} {ret : Str} (hi : g[i]? = some (some (.lam I))) (hl : LmOk P w K mg base CX k I (spL T K o)) (he : ∀ C, o.er C [] → C = CS) (hx : PySem.W.exmOne K (.ref CS) (.ref CS) = some true)
    (h1 : ∀ d, o.ok d [] → O.rt d []) (h2 : o.er CS [] → O.rt (.str ret) []) :
    StD T K E (fun D σ H => ∃ Ech : XK, (∀ cls d σ' H', Ech cls d H' → wOnly K (.ref CS) (fun _ _ _ => tRet (tC (.str ret))) (fun cls d _ H => E cls d H) D cls d σ' H') ∧ tActL CX P w K mg base k i Ech σ H D.rt) g [] O := fun rf Hs H σ s En Gd => by
  obtain ⟨v, a1, a2⟩ := s.sl i _ hi
  cases a2 with
  | @lam f c _ b1 b2 =>
    refine ⟨fun cls d H' => cls = .ref CS ∧ En.rt (.str ret) H', fun cls d σ' H' ⟨e1, e2⟩ => ?_, f, c, I, _, a1, s.ex.keep _ _ b1 lo_ne, s.ex.keep _ _ b2 codeO_ne, hl, rf, Hs, s.nil, fun d v Hs' H' ok e s' rv => Gd.rt _ _ _ _ _ _ _ (h1 d ok) e s' rv, fun C Hs' H' er e s' => ?_⟩
    · subst e1
      exact ⟨true, hx, fun _ _ _ => e2, fun z => by cases z⟩
    · have := he C er
      subst this
      exact ⟨rfl, Gd.rt _ _ _ _ _ _ _ (h2 er) e s' (.str _)⟩
/-- a lambda's promise from its body's reading -/
theorem lm_val {CX : CXT} {P : Program} {w : World} {mg : Str → Option Value} {base : Heap} {I : LInfo} {o : Oc} (S : NdefX.NScope [] [] [] I.scope) (hb : ∀ (c : Addr) (pm ctv : Value), bindArgs (PySem.W.kla_fn "<lambda>" I.q I.params I.body I.scope [] pm (.ref c) ctv) ⟨[], []⟩ = pure [])
    (hbody : ∀ (A : Around) (outer : List Env) (s : Shared) (H : Hp) (f c : Addr) (E : XK), Room k (A.deeper (NdefX.envF (I.nf c) f s.heap.objs.size)) → ∃ t, PE (NdefX.ncx CX P w K mg base [] (I.nf c) f A outer s H E) I.body t ∧ ((∃ d, Ev T K t [] [] d [] ∧ o.ok d []) ∨ ∃ C, EvX T K E t [] [] C [] ∧ o.er C [])) : LmOk P w K mg base CX (k + 1) I (spL T K o) := by
  refine lm_of S hb fun A outer s H f c Q E hr ⟨rf, Hs, sr, q1, q2⟩ => ?_
  obtain ⟨t, ht, h⟩ := hbody A outer s H f c E hr
  refine ⟨t, ht, ?_⟩
  rcases h with ⟨d, h1, h2⟩ | ⟨C, h1, h2⟩
  · exact h1 rf Hs H [] sr Q fun v Hs' H' e s' rv => q1 d v Hs' H' h2 e s' rv
  · exact h1 rf Hs H [] sr Q fun Hs' H' e s' => q2 C Hs' H' h2 e s'
theorem en_slQ {tl th : TO} {lo hi : Option Int} (h : Ev T K te g r (.lsq ds) r1) (h1 : EvO T K tl g r1 lo r2) (h2 : EvO T K th g r2 hi r3) : EvN T K (tSl (rSlL K) te tl th) g r (cutD ds lo hi) r3 := fun rf Hs H σ s Q q =>
  h rf Hs H σ s _ fun w Hs1 H1 e1 s1 rv => h1 rf Hs1 H1 σ s1 _ fun Hs2 H2 e2 s2 => h2 rf Hs2 H2 σ s2 _ fun Hs3 H3 e3 s3 => by
    cases DR.mono (e2.trans e3) _ rv with
    | lsq a1 a2 => exact ⟨_, _, rfl, s3.ex.sl a1, fun p hp => q p _ _ ((e1.trans e2).trans e3) (s3.own (o := .lst _) hp True.intro (x := rl p _) rfl ⟨_, upd_same, a2.cut lo hi⟩)⟩
end
end DL
namespace DL
open PySem PySem.Spec PyProof.Rows L2
section
variable {T : Tb} {K : PySem.W.Frag} {E : XK} {g g' : G} {r r' r1 r2 r3 : Rs} {ta tb tc te : TE} {t : TT} {x y z d : D} {ds es xs : List D} {tas : TA} {f : R2} {O O' : Out} {s1 s2 ts tu : TS} {i j k : Nat} {tg : TG} {C : Addr}
/-! ### what raises within -/
theorem ex_opL (h : EvX T K E ta g r C r1) : EvX T K E (tOp f ta tb) g r C r1 := fun rf Hs H σ s Q q => h rf Hs H σ s _ fun Hs1 H1 e s1 => q Hs1 H1 e s1
theorem ex_opR (h1 : Ev T K ta g r x r1) (h2 : EvX T K E tb g r1 C r2) : EvX T K E (tOp f ta tb) g r C r2 := fun rf Hs H σ s Q q => h1 rf Hs H σ s _ fun v Hs1 H1 e s1 rv => h2 rf Hs1 H1 σ s1 _ fun Hs2 H2 e2 s2 => q Hs2 H2 (e.trans e2) s2
theorem st_exT (h : EvX T K E te g r C r1) (h2 : O.ex C r1) : StD T K E (tIfS (tTest te) s1 s2) g r O := fun rf Hs H σ s En G => h rf Hs H σ s _ fun Hs1 H1 e s' => G.ex C _ _ _ _ _ h2 e s'
theorem sq_exT (h : EvX T K E te g r C r1) (h2 : O.ex C r1) : StD T K E (tSeq (tIfS (tTest te) s1 s2) ts) g r O := fun rf Hs H σ s En G => h rf Hs H σ s _ fun Hs1 H1 e s' => G.ex C _ _ _ _ _ h2 e s'
theorem sq_exFor (h : EvX T K E te g r C r1) (h2 : O.ex C r1) : StD T K E (tSeq (tFor (iTup K te) tg tu) ts) g r O := fun rf Hs H σ s En G => h rf Hs H σ s _ fun Hs1 H1 e s' => G.ex C _ _ _ _ _ h2 e s'
theorem ev_callC {n : Nat} {R : List D → Rs → Oc → Prop} (hR : R ds [] (.one d [])) (h : EvA T K tas g r ds r1) (hn : ds.length = n) : Ev T K (tCall (spR T K n R) [] E tas) g r d r1 := ev_call0 h hn hR
theorem ex_callC {n : Nat} {R : List D → Rs → Oc → Prop} (hR : R ds [] (.err C [])) (h : EvA T K tas g r ds r1) (hn : ds.length = n) : EvX T K E (tCall (spR T K n R) [] E tas) g r C r1 := ex_call0 h hn hR
theorem ev_jn (h : EvN T K te g r ds r1) : Ev T K te g r (.lst ds) r1 := h.ev
end
/-- the simple steps of an expression -/
local macro_rules | `(tactic| walk_at "ev") => `(tactic| repeat' (with_reducible first
  | exact ev_int | exact ev_bl | exact ev_str | exact ev_non | exact ev_ref | exact ea_nil | exact eo_none | exact vl_f | exact vs_t | exact vs_f | exact vd_f
  | (apply ev_var; (with_unfolding_all rfl))
  | apply ea_cons | apply ev_tup | apply ev_neg | apply en_lst | apply eo_some
  | apply et_test | apply et_not
  | exact od_I0i | exact od_I0b | exact od_eqI | exact od_neI | exact od_eqS | exact od_neS | exact od_eqB | exact od_neB
  | apply ev_op | apply ev_cb | exact ca_abs | exact ca_intI | exact ca_intB | apply ca_len))
end DL
namespace DL
open PySem PySem.Spec PyProof.Rows L2
section
variable {T : Tb} {K : PySem.W.Frag} {E : XK} {g g' : G} {r r' r1 r2 r3 : Rs} {ta tb tc te : TE} {t : TT} {x y z d : D} {ds es xs : List D} {tas : TA} {f : R2} {O O' : Out} {s1 s2 ts tu : TS} {i j k : Nat} {tg : TG} {C : Addr}
/-! ### a, b = .. with new lists -/
theorem sq_parNN (h1 : EvN T K ta g r ds r1) (h2 : ∀ p, EvN T K tb g (rl p ds :: r1) es (rl p ds :: r2)) (hk : ∀ p q, StD T K E ts ((g.set i (some (.ref p))).set j (some (.ref q))) (rl q es :: rl p ds :: r2) O) : StD T K E (tSeq (tPar i j (tCons ta (tCons tb tNil))) ts) g r O := fun rf Hs H σ s En G =>
  h1 rf Hs H σ s _ fun p Hs1 H1 e1 s1 => h2 p rf Hs1 H1 σ s1 _ fun q Hs2 H2 e2 s2 => ⟨.ref p, .ref q, rfl, hk p q rf Hs2 H2 _ ((s2.set (.ref p) i).set (.ref q) j) En (G.ext (e1.trans e2))⟩
theorem sq_parEN (h1 : Ev T K ta g r x r1) (h2 : EvN T K tb g r1 es r2) (hk : ∀ q, StD T K E ts ((g.set i (some x)).set j (some (.ref q))) (rl q es :: r2) O) : StD T K E (tSeq (tPar i j (tCons ta (tCons tb tNil))) ts) g r O := fun rf Hs H σ s En G =>
  h1 rf Hs H σ s _ fun v Hs1 H1 e1 s1 rv => h2 rf Hs1 H1 σ s1 _ fun q Hs2 H2 e2 s2 => ⟨v, .ref q, rfl, hk q rf Hs2 H2 _ ((s2.set (DR.mono e2 x rv) i).set (.ref q) j) En (G.ext (e1.trans e2))⟩
theorem sq_parNE (h1 : EvN T K ta g r ds r1) (h2 : ∀ p, Ev T K tb g (rl p ds :: r1) y (rl p ds :: r2)) (hk : ∀ p, StD T K E ts ((g.set i (some (.ref p))).set j (some y)) (rl p ds :: r2) O) : StD T K E (tSeq (tPar i j (tCons ta (tCons tb tNil))) ts) g r O := fun rf Hs H σ s En G =>
  h1 rf Hs H σ s _ fun p Hs1 H1 e1 s1 => h2 p rf Hs1 H1 σ s1 _ fun v Hs2 H2 e2 s2 rv => ⟨.ref p, v, rfl, hk p rf Hs2 H2 _ ((s2.set (.ref p) i).set rv j) En (G.ext (e1.trans e2))⟩
theorem st_parNE (h1 : EvN T K ta g r ds r1) (h2 : ∀ p, Ev T K tb g (rl p ds :: r1) y (rl p ds :: r2)) (hk : ∀ p, O.nx ((g.set i (some (.ref p))).set j (some y)) (rl p ds :: r2)) : StD T K E (tPar i j (tCons ta (tCons tb tNil))) g r O := fun rf Hs H σ s En G =>
  h1 rf Hs H σ s _ fun p Hs1 H1 e1 s1 => h2 p rf Hs1 H1 σ s1 _ fun v Hs2 H2 e2 s2 rv => ⟨.ref p, v, rfl, G.nx _ _ _ _ _ (hk p) (e1.trans e2) ((s2.set (.ref p) i).set rv j)⟩
theorem sq_par3 (h : EvA T K tas g r [x, y, z] r1) (h2 : StD T K E s2 (((g.set i (some x)).set j (some y)).set k (some z)) r1 O) : StD T K E (tSeq (tPar3 i j k tas) s2) g r O := fun rf Hs H σ s En G =>
  h rf Hs H σ s _ fun vs Hs1 H1 e s' rvs => by
    cases rvs with
    | cons ru rvs =>
      obtain ⟨v, w, rfl, rv, rw'⟩ := rvs.two
      exact ⟨_, v, w, rfl, h2 rf Hs1 H1 _ (((s'.set ru i).set rv j).set rw' k) En (G.ext e)⟩
/-! ### comprehensions without a state -/
theorem en_lcF {ti : TI} {vs : List Nat} (h : EvI T K ti g r ds r1) (hl : ds.length ≤ 100000) (b : D → Bool) (fe : D → D)
    (hs : ∀ (i : Nat) d, ds[i]? = some d → ∃ g2 is, EvG T K tg is d (wipeG g vs) g2 ∧ (∀ i ∈ is, i ∈ vs) ∧ EvT T K t g2 r1 (b d) r1 ∧ (b d = true → Ev T K te g2 r1 (fe d) r1)) : EvN T K (tLc ti tg t te vs) g r ((ds.filter b).map fe) r1 := by
  refine en_lc h (fun i acc r' => acc = ((ds.take i).filter b).map fe ∧ r' = r1) ⟨rfl, rfl⟩ hl ?_ ?_
  · rintro i d acc r' hd ⟨rfl, rfl⟩
    obtain ⟨g2, is, h1, h2, h3, h4⟩ := hs i d hd
    have e : ds.take (i + 1) = ds.take i ++ [d] := by
      rw [List.take_succ, hd]
      rfl
    refine ⟨g2, is, h1, h2, b d, r', h3, fun hb => ⟨fe d, r', h4 hb, ?_, rfl⟩, fun hb => ⟨?_, rfl⟩⟩
    · rw [e, List.filter_append, List.map_append]
      simp [hb]
    · rw [e, List.filter_append, List.map_append]
      simp [hb]
  · rintro acc r' ⟨rfl, rfl⟩
    rw [List.take_length]
    exact ⟨rfl, rfl⟩
theorem en_lcM {ti : TI} {vs : List Nat} (h : EvI T K ti g r ds r1) (hl : ds.length ≤ 100000) (fe : D → D)
    (hs : ∀ (i : Nat) d, ds[i]? = some d → ∃ g2 is, EvG T K tg is d (wipeG g vs) g2 ∧ (∀ i ∈ is, i ∈ vs) ∧ Ev T K te g2 r1 (fe d) r1) : EvN T K (tLc ti tg tYes te vs) g r (ds.map fe) r1 := by
  have q := en_lcF (t := tYes) (te := te) (tg := tg) (vs := vs) h hl (fun _ => true) fe fun i d hd => by
    obtain ⟨g2, is, h1, h2, h3⟩ := hs i d hd
    exact ⟨g2, is, h1, h2, et_yes, fun _ => h3⟩
  rw [List.filter_eq_self.mpr (fun _ _ => rfl)] at q
  exact q
/-! ### cuts -/
theorem sIx_pos (n d : Nat) {v : Int} (h : 0 ≤ v) : HT.sIx n d (some v) = min v.toNat n := by
  obtain ⟨k, rfl⟩ : ∃ k : Nat, v = (k : Int) := ⟨v.toNat, by omega⟩
  rw [HT.sIx_nat]
  simp
theorem cut_from {v : Int} (h : 0 ≤ v) : cutD ds (some v) none = ds.drop v.toNat := by
  unfold cutD
  rw [sIx_pos _ _ h, HT.sIx_none]
  by_cases hv : v.toNat ≤ ds.length
  · rw [Nat.min_eq_left hv, List.take_of_length_le (by simp)]
  · rw [Nat.min_eq_right (by omega), Nat.sub_self, List.take_zero, List.drop_eq_nil_of_le (by omega)]
theorem cut_upto {v : Int} (h : 0 ≤ v) : cutD ds none (some v) = ds.take v.toNat := by
  unfold cutD
  rw [sIx_pos _ _ h, HT.sIx_none]
  simp only [List.drop_zero, Nat.sub_zero]
  by_cases hv : v.toNat ≤ ds.length
  · rw [Nat.min_eq_left hv]
  · rw [Nat.min_eq_right (by omega), List.take_of_length_le (Nat.le_refl _), List.take_of_length_le (by omega)]
theorem cut_mid {u v : Int} (h : 0 ≤ u) (h2 : u ≤ v) : cutD ds (some u) (some v) = (ds.drop u.toNat).take (v.toNat - u.toNat) := by
  unfold cutD
  rw [sIx_pos _ _ h, sIx_pos _ _ (by omega)]
  by_cases hv : v.toNat ≤ ds.length
  · rw [Nat.min_eq_left hv, Nat.min_eq_left (by omega)]
  · rw [Nat.min_eq_right (by omega)]
    by_cases hu : u.toNat ≤ ds.length
    · rw [Nat.min_eq_left hu, List.take_of_length_le (by simp), List.take_of_length_le (by simp; omega)]
    · rw [Nat.min_eq_right (by omega), List.drop_eq_nil_of_le (Nat.le_refl _), List.drop_eq_nil_of_le (by omega)]
      simp
/-! ### return; what is one's own is given up, but for the first n -/
theorem SR.cut {rf : Rs} {Hs H : Hp} {σ : L2.St} : ∀ {r1 r2 : Rs}, SR T K Hs H σ g (r1 ++ (r2 ++ rf)) → SR T K Hs H σ g (r2 ++ rf)
  | [], _, s => s
  | _ :: r1, r2, s => SR.cut (r1 := r1) (s.drop 0)
theorem st_retD (h : Ev T K te g r d (r1 ++ r2)) (h2 : O.rt d r2) : StD T K E (tRet te) g r O := fun rf Hs H σ s En G =>
  h rf Hs H σ s _ fun v Hs1 H1 e s' rv => G.rt _ _ _ _ _ _ _ h2 e (SR.cut (r1 := r1) (by rw [← List.append_assoc]; exact s')) rv
theorem st_retA (h : Ev T K te g r d r1) (h2 : O.rt d []) : StD T K E (tRet te) g r O := st_retD (r1 := r1) (r2 := []) (by rw [List.append_nil]; exact h) h2
/-- resources given up ahead of what follows -/
theorem st_dropA (h : StD T K E ts g r2 O) : StD T K E ts g (r1 ++ r2) O := fun rf Hs H σ s => h rf Hs H σ (SR.cut (r1 := r1) (by rw [← List.append_assoc]; exact s))
/-- a resource is given up behind the statement -/
theorem st_nxD (j : Nat) (h : StD T K E ts g r { O with nx := fun g' r' => j < r'.length ∧ O.nx g' (r'.eraseIdx j) }) : StD T K E ts g r O := fun rf Hs H σ s En G => h rf Hs H σ s En ⟨fun g' r' Hs' H' σ' o e s' => G.nx _ _ _ _ _ o.2 e (by rw [← eraseIdx_app o.1]; exact s'.drop j), G.rt, G.bk, G.ct, G.ex⟩
/-- the slots are read more weakly behind the statement -/
theorem st_nxW {w : G → G → Prop} (hw : ∀ a b, w a b → Wk a b) (h : StD T K E ts g r { O with nx := fun g' r' => ∃ g2, w g' g2 ∧ O.nx g2 r' }) : StD T K E ts g r O := fun rf Hs H σ s En Gd => h rf Hs H σ s En ⟨fun g' r' Hs' H' σ' ⟨g2, o1, o2⟩ e s' => Gd.nx _ _ _ _ _ o2 e (s'.weak (hw _ _ o1)), Gd.rt, Gd.bk, Gd.ct, Gd.ex⟩
end
end DL
namespace DL
open PySem PySem.Spec PyProof.Rows L2
theorem units65 {k : Nat} {A : Around} (h : Room k A) : A.units + 65 < cLine := by
  have := h.un
  omega
/-- an expression gives some data and resources of R -/
def EvP (T : Tb) (K : PySem.W.Frag) (te : TE) (g : G) (r : Rs) (R : D → Rs → Prop) : Prop := ∀ (rf : Rs) (Hs H : Hp) (σ : L2.St), SR T K Hs H σ g (r ++ rf) → ∀ Q : VK,
  (∀ d r' v Hs' H', R d r' → Ext T Hs Hs' → SR T K Hs' H' σ g (r' ++ rf) → DR K Hs' v d → Q v H') → te σ H Q
/-- .. a new list -/
def EvNP (T : Tb) (K : PySem.W.Frag) (te : TE) (g : G) (r : Rs) (R : List D → Rs → Prop) : Prop := ∀ (rf : Rs) (Hs H : Hp) (σ : L2.St), SR T K Hs H σ g (r ++ rf) → ∀ Q : VK,
  (∀ p ds r' Hs' H', R ds r' → Ext T Hs Hs' → SR T K Hs' H' σ g (rl p ds :: (r' ++ rf)) → Q (.ref p) H') → te σ H Q
section
variable {T : Tb} {K : PySem.W.Frag} {E : XK} {g g' : G} {r r' r1 r2 r3 : Rs} {ta tb tc te : TE} {t : TT} {x y z d : D} {ds es xs : List D} {tas : TA} {f : R2} {O O' : Out} {s1 s2 ts tu : TS} {i j k : Nat} {tg : TG} {C : Addr}
theorem ep_callN {n : Nat} {R : List D → Rs → Oc → Prop} {o : Oc} (h : EvA T K tas g r ds r1) (hn : ds.length = n) (hR : R ds [] o) (he : ∀ C r, ¬ o.er C r) : EvP T K (tCall (spR T K n R) [] E tas) g r fun d r' => ∃ r2, o.ok d r2 ∧ r' = r2 ++ r1 := fun rf Hs H σ s Q q =>
  call_any (rc := []) (rx := r1) h (List.Perm.refl _) hn hR s (fun d' r' v Hs' H' eo e s2 rv => q d' (r' ++ r1) v Hs' H' ⟨r', eo, rfl⟩ e s2 rv) fun C r _ _ eo => (he C r eo).elim
theorem en_lcP {ti : TI} {vs : List Nat} {Rf : List D → Rs → Prop} (h : EvI T K ti g r ds r1) (I : Nat → List D → Rs → Prop) (h0 : I 0 [] r1) (hl : ds.length ≤ 100000)
    (hs : ∀ (i : Nat) d acc r', ds[i]? = some d → I i acc r' → ∃ g2 is, EvG T K tg is d (wipeG g vs) g2 ∧ (∀ i ∈ is, i ∈ vs) ∧ EvP T K te g2 r' fun e r3 => I (i + 1) (acc ++ [e]) r3)
    (hd : ∀ acc r', I ds.length acc r' → Rf acc r') : EvNP T K (tLc ti tg tYes te vs) g r Rf := fun rf Hs H σ s Q q =>
  h rf Hs H σ s _ fun J Hs1 H1 e s1 st => fun D hD => by
    have s1' : SR T K Hs1 (upd H1 D (.lst [])) σ g (r1 ++ (rl D [] :: rf)) :=
      (s1.own (o := .lst []) hD True.intro (x := rl D []) rfl ⟨[], upd_same, .nil⟩).perm List.perm_middle.symm
    refine ⟨fun i m H' => m = ds.length - i ∧ i ≤ ds.length ∧ ∃ Hs' acc r', Ext T Hs1 Hs' ∧ SR T K Hs' H' σ g (r' ++ (rl D acc :: rf)) ∧ acc.length ≤ i ∧ I i acc r', ⟨_, rfl, Nat.zero_le _, Hs1, [], r1, Ext.refl _, s1', Nat.le_refl _, h0⟩, ?_⟩
    rintro i m H' ⟨rfl, hi, Hs', acc, r', e', s', la, w⟩
    obtain ⟨a1, a2⟩ := st i Hs' H' e' s'.ex
    by_cases hlt : i < ds.length
    · obtain ⟨b1, b2⟩ := a2 ds[i] (List.getElem?_eq_getElem hlt)
      refine Or.inr ⟨b1, fun H2 => ∃ Hs2 acc r2, Ext T Hs1 Hs2 ∧ SR T K Hs2 H2 σ g (r2 ++ (rl D acc :: rf)) ∧ acc.length ≤ i + 1 ∧ I (i + 1) acc r2, fun H2 ⟨Hs2, acc, r2, c1, c2, c3, c4⟩ => ⟨ds.length - (i + 1), by omega, rfl, hlt, Hs2, acc, r2, c1, c2, c3, c4⟩, fun v H2 y => ?_⟩
      obtain ⟨Hs2, c1, c2, c3⟩ := b2 v H2 y
      obtain ⟨g2, is, k1, k0, k2⟩ := hs i _ acc r' (List.getElem?_eq_getElem hlt) w
      have sw := (c3 _ _ _ s').wipe vs
      refine k1 Hs2 H2 _ _ v sw c2 _ fun σ3 s3 hw => ⟨?_, ?_⟩
      · rw [hw vs k0]
        have ww : ∀ (u : List Nat) (τ : L2.St), wipe (wipe τ u) u = wipe τ u := by
          intro u τ
          apply List.ext_getElem?
          intro n
          by_cases hn : n ∈ u
          · have gN : ∀ (u : List Nat) (τ : L2.St), n ∈ u → (wipe τ u)[n]? = if n < τ.length then some none else none := by
              intro u
              induction u with
              | nil => intro τ h; exact nomatch h
              | cons a u ih =>
                intro τ h
                show ((wipe τ u).set a none)[n]? = _
                by_cases ha : a = n
                · subst ha
                  rw [List.getElem?_set]
                  simp only [wipe_length, if_true]
                · rw [List.getElem?_set_ne ha]
                  rcases List.mem_cons.mp h with z | z
                  · exact (ha z.symm).elim
                  · exact ih τ z
            rw [gN u _ hn, gN u _ hn, wipe_length]
          · rw [wipe_out hn]
        exact ww vs σ
      · refine k2 _ Hs2 H2 σ3 s3 _ fun el r3 v2 Hs4 H4 f2 e4 s5 rv => ?_
        have hm : rl D acc ∈ r3 ++ (rl D acc :: rf) := by simp
        obtain ⟨ys, q1, q2⟩ := s5.rs _ hm
        have eA : Ext T Hs Hs4 := ((e.trans e').trans c1).trans e4
        have hj : (r3 ++ (rl D acc :: rf))[r3.length]? = some (rl D acc) := by simp
        refine ⟨ys, q1, Evl.sz_lt (by rw [q2.length]; omega), Hs4, acc ++ [el], r3, (e'.trans c1).trans e4, ?_, by rw [List.length_append]; simp; omega, f2⟩
        have s6 := s5.mut (y := rl D (acc ++ [el])) (o := .lst (ys ++ [v2])) hj rfl rfl True.intro ⟨_, upd_same, q2.append (.cons rv .nil)⟩
        have er : (r3 ++ (rl D acc :: rf)).set r3.length (rl D (acc ++ [el])) = r3 ++ (rl D (acc ++ [el]) :: rf) := by
          rw [List.set_append_right _ _ (Nat.le_refl _)]
          simp
        rw [er] at s6
        exact s.back eA s6
    · have he : i = ds.length := by omega
      subst he
      exact Or.inl ⟨a1 (Nat.le_refl _), q D acc r' Hs' H' (hd acc r' w) (e.trans e') (s'.perm List.perm_middle)⟩
theorem st_retNP {R : List D → Rs → Prop} (h : EvNP T K te g r R) (h2 : ∀ ds r', R ds r' → O.rt (.lst ds) r') : StD T K E (tRet te) g r O := fun rf Hs H σ s En G =>
  h rf Hs H σ s _ fun p ds r' Hs1 H1 hr e s' => by
    obtain ⟨ys, a1, a2⟩ := s'.rs _ (List.mem_cons_self)
    obtain ⟨s2, e2⟩ := s'.freeze (j := 0) rfl rfl a1
    exact G.rt _ _ _ _ _ _ _ (h2 ds r' hr) (e.trans e2) s2 (.lst upd_same (DRs.mono e2 ds a2))
theorem st_retN' (h : EvN T K te g r ds r1) (h2 : ∀ p, O.rt (.ref p) (rl p ds :: r1)) : StD T K E (tRet te) g r O := fun rf Hs H σ s En G =>
  h rf Hs H σ s _ fun p Hs1 H1 e s' => G.rt _ _ _ _ _ _ _ (h2 p) e s' (.ref p)
theorem EvP.mono {R R' : D → Rs → Prop} (h : EvP T K te g r R) (m : ∀ d r, R d r → R' d r) : EvP T K te g r R' := fun rf Hs H σ s Q q => h rf Hs H σ s Q fun d r' v Hs' H' hr => q d r' v Hs' H' (m d r' hr)
end
end DL
namespace DL
open PySem PySem.Spec PyProof.Rows L2
section
variable {T : Tb} {K : PySem.W.Frag} {E : XK} {g g' g2 : G} {r r' r1 r2 r3 : Rs} {ta tb tc te tl : TE} {t : TT} {x y z d : D} {ds es xs : List D} {tas : TA} {f : R2} {O O' : Out} {s1 s2 ts tu : TS} {i j k : Nat} {tg : TG} {C : Addr} {is : List Nat}
theorem sq_asg (h : Ev T K te g r d r1) (hg : EvG T K tg is d g g2) (hk : StD T K E ts g2 r1 O) : StD T K E (tSeq (tAsg te tg) ts) g r O := fun rf Hs H σ s En G =>
  h rf Hs H σ s _ fun v Hs1 H1 e s' rv => hg Hs1 H1 σ _ v s' rv _ fun σ' s2 _ => hk rf Hs1 H1 σ' s2 En (G.ext e)
theorem st_asg (h : Ev T K te g r d r1) (hg : EvG T K tg is d g g2) (hk : O.nx g2 r1) : StD T K E (tAsg te tg) g r O := fun rf Hs H σ s En G =>
  h rf Hs H σ s _ fun v Hs1 H1 e s' rv => hg Hs1 H1 σ _ v s' rv _ fun σ' s2 _ => G.nx _ _ _ _ _ hk e s2
/-- what is walked, some items and resources of X -/
def EvIx (T : Tb) (K : PySem.W.Frag) (ti : TI) (g : G) (r : Rs) (X : List D → Rs → Prop) : Prop := ∀ (rf : Rs) (Hs H : Hp) (σ : L2.St), SR T K Hs H σ g (r ++ rf) → ∀ R : It → Hp → Prop,
  (∀ ds r' J Hs' H', X ds r' → Ext T Hs Hs' → SR T K Hs' H' σ g (r' ++ rf) → Steps T K Hs' J ds → R J H') → ti σ H R
theorem eix_lst {R : D → Rs → Prop} {X : List D → Rs → Prop} (h : EvP T K tl g r R) (hR : ∀ d r', R d r' → ∃ ds, d = .lst ds ∧ X ds r') : EvIx T K (iList K tl) g r X := fun rf Hs H σ s Rk q => h rf Hs H σ s _ fun d r' v Hs1 H1 hr e s1 rv => by
  obtain ⟨ds, rfl, hX⟩ := hR d r' hr
  cases rv with
  | @lst a xs _ h1 h2 =>
    have hq : ∀ {Hs' H' : Hp}, Ext T Hs1 Hs' → Ext T Hs' H' → SqL K H' a xs := fun e1 e2 => Evl.sq_of (e2.keep _ _ (e1.keep _ _ h1 (fun _ z => nomatch z)) (fun _ z => nomatch z))
    refine ⟨a, rfl, ⟨xs, hq (Ext.refl _) s1.ex⟩, q ds r' _ _ _ hX e s1 fun i Hs' H' e1 e2 => ⟨fun hl => ⟨xs, hq e1 e2, by rw [h2.length]; exact hl⟩, fun d hd => ?_⟩⟩
    obtain ⟨v, g1, g2⟩ := h2.get hd
    have hx : SqL K H' a xs := hq e1 e2
    refine ⟨⟨xs, v, hx, g1⟩, fun v' H2 y => ?_⟩
    obtain ⟨e3, y⟩ := y
    subst e3
    have ev := y xs hx
    rw [g1] at ev
    cases ev
    exact ⟨Hs', Ext.refl _, DR.mono e1 d g2, fun σ g r s => s⟩
theorem st_forX {ti : TI} {X : List D → Rs → Prop} (h : EvIx T K ti g r X)
    (hk : ∀ ds r1, X ds r1 → ∃ I : Nat → G → Rs → Prop, I 0 g r1 ∧ (∀ (i : Nat) d g' r', ds[i]? = some d → I i g' r' → ∃ g2 is, EvG T K tg is d g' g2 ∧ StD T K E tu g2 r' { O with nx := I (i + 1), ct := I (i + 1), bk := O.nx }) ∧ ∀ g' r', I ds.length g' r' → O.nx g' r') :
    StD T K E (tFor ti tg tu) g r O := fun rf Hs H σ s En Gd =>
  h rf Hs H σ s _ fun ds r1 J Hs1 H1 hX e s1 st => by
    obtain ⟨I, h0, hs, hd⟩ := hk ds r1 hX
    refine ⟨fun i m σ' H' => m = ds.length - i ∧ i ≤ ds.length ∧ ∃ Hs' g' r', Ext T Hs1 Hs' ∧ SR T K Hs' H' σ' g' (r' ++ rf) ∧ I i g' r', ⟨_, rfl, Nat.zero_le _, Hs1, g, r1, Ext.refl _, s1, h0⟩, ?_⟩
    rintro i m σ' H' ⟨rfl, hi, Hs', g', r', e', s', w⟩
    obtain ⟨a1, a2⟩ := st i Hs' H' e' s'.ex
    by_cases hlt : i < ds.length
    · obtain ⟨b1, b2⟩ := a2 ds[i] (List.getElem?_eq_getElem hlt)
      refine Or.inr ⟨b1, fun σ2 H2 => ∃ Hs2 g2 r2, Ext T Hs1 Hs2 ∧ SR T K Hs2 H2 σ2 g2 (r2 ++ rf) ∧ I (i + 1) g2 r2, fun σ2 H2 ⟨Hs2, g2, r2, c1, c2, c3⟩ => ⟨ds.length - (i + 1), by omega, rfl, hlt, Hs2, g2, r2, c1, c2, c3⟩, fun v H2 y => ?_⟩
      obtain ⟨Hs2, c1, c2, c3⟩ := b2 v H2 y
      obtain ⟨g2, is, k1, k2⟩ := hs i _ g' r' (List.getElem?_eq_getElem hlt) w
      refine k1 Hs2 H2 σ' _ v (c3 _ _ _ s') c2 _ fun σ3 s3 _ => ?_
      have e2 : Ext T Hs Hs2 := (e.trans e').trans c1
      refine k2 rf Hs2 H2 σ3 s3 _ ⟨fun g3 r3 Hs3 H3 σ4 o e3 s4 => ⟨Hs3, g3, r3, (e'.trans c1).trans e3, s4, o⟩, (Gd.ext e2).rt, (Gd.ext e2).nx, fun g3 r3 Hs3 H3 σ4 o e3 s4 => ⟨Hs3, g3, r3, (e'.trans c1).trans e3, s4, o⟩, (Gd.ext e2).ex⟩
    · have he : i = ds.length := by omega
      subst he
      exact Or.inl ⟨a1 (Nat.le_refl _), Gd.nx _ _ _ _ _ (hd _ _ w) (e.trans e') s'⟩
/-- x is not None -/
theorem od_notN {b : Bool} (hx : ∀ Hs v, DR K Hs v x → decide (v = V.non) = b) : OpD T K (fun x y H Q => y = V.non ∧ Q (.bl (!decide (x = V.non))) H) x .non g r (.bl (!b)) r := fun rf Hs H σ u v s ru rv Q q => by
  cases rv
  rw [hx _ _ ru]
  exact ⟨rfl, q _ _ _ (Ext.refl _) s (.bl _)⟩
/-- a branch that is not taken -/
theorem sq_no (h : EvT T K t g r false r1) (hk : StD T K E ts g r1 O) : StD T K E (tSeq (tIfS t s1 tNext) ts) g r O := sq_if h (fun z => by cases z) fun _ => sq_next hk
end
end DL
namespace Bs
open PySem PySem.Spec PyProof.Rows L2 DL GX GxR
def top (i : Nat) : Stmt := PySem.Challenge.pw_bellstack_k01_rows_of_bells.main.body.getD i (.Pass ⟨0, 0, 0, 0⟩)







abbrev s_rounds : Stmt := top 5
abbrev s_check_row : Stmt := top 6
abbrev s_row_text : Stmt := top 7
abbrev s_row_of : Stmt := top 8
abbrev s_permuted : Stmt := top 9
abbrev s_undone : Stmt := top 10
abbrev s_is_odd : Stmt := top 11
abbrev s_cycles : Stmt := top 12
abbrev s_order_of : Stmt := top 13
abbrev s_runs : Stmt := top 14
abbrev s_music : Stmt := top 15
abbrev s__law_dice : Stmt := top 17
abbrev s__law_roll : Stmt := top 18
abbrev s__law_rounds : Stmt := top 19
abbrev s__law_told : Stmt := top 20
abbrev s__law_row : Stmt := top 21
abbrev s__law_runs : Stmt := top 22
abbrev s_law : Stmt := top 23
structure Bi (mg : Str → Option Value) : Prop where
  tuple : mg "tuple" = none
  range : mg "range" = none
  sorted : mg "sorted" = none
  len : mg "len" = none
  any : mg "any" = none
  list : mg "list" = none
  abs : mg "abs" = none
  int : mg "int" = none
  sum : mg "sum" = none
  min : mg "min" = none
  zip : mg "zip" = none
/-- a class of errors -/
structure Er (K : PySem.W.Frag) (mg : Str → Option Value) (x : Str) (C : Addr) : Prop where
  g : mg x = some (.ref C)
  k : PySem.W.keepIn K (.ref C) = true
  x : PySem.W.excIn K C [.type "ValueError", .type "Exception", .type "BaseException", .type "object"] "ValueError.__new__" = true
  b : PySem.W.subIn K (.ref C) (.type "BaseException") = some true
  t : PySem.W.typeIn K (.ref C) = some (.type "type")
structure Cal (P : Program) (w : World) (K : PySem.W.Frag) (mg : Str → Option Value) (base : Heap) (T : Tb) (x : Str) (k : Nat) (ps : List Str) (R : List D → Rs → Oc → Prop) : Prop where
  ex : ∃ (f : Addr) (fd : FuncData), FnOk P w K mg base (L2.CX P w) k f fd ps (spR T K ps.length R) ∧ mg x = some (.ref f) ∧ PySem.W.keepIn K (.ref f) = true ∧ Binds K fd ps []
/-- a def with a table -/
theorem okC {P : Program} {w : World} {K : PySem.W.Frag} {mg : Str → Option Value} {base : Heap} {x qual : Str} {st : Stmt} {f c : Addr} {fd : FuncData} {N ps : List Str} {k : Nat} {sp : Sp} (F : Fun K x qual st f fd) (hc : fd.code = .ref c) (S : FnScope N ps (defScope st)) (len : ∀ vs H Q E, sp vs H Q E → vs.length = ps.length)
    (hbody : ∀ (A : Around) (outer : List Env) (s : Shared) (H : Hp) (vs : List V) (Q : VK) (E : XK), Room k (A.deeper (envOfC qual (defScope st) s.heap.objs.size f (.ref c))) → sp vs H Q E →
      ∃ t, PSs (cxOf (L2.CX P w) P w K mg base N qual (defScope st) f (.ref c) A outer s H E) (defBody st) t ∧ t { nx := fun _ H' => Q .non H', rt := Q } (start N vs) H) : FnOk P w K mg base (L2.CX P w) (k + 1) f fd ps sp := by
  obtain ⟨oc, od, kV, doc, pm, an, cdv, ct, osl, e, lk, hcd⟩ := F.ex
  have e2 : cdv = .ref c := by rw [e] at hc; exact hc
  subst e2
  subst e
  exact fn_of lk hcd S len fun A outer s H vs Q E hr hsp => hbody A outer s H vs Q E hr hsp
/-! ### plain -/
/-- the bells from the first to the last -/
def rng (n : Nat) : List Int := (List.range n).map fun (i : Nat) => 1 + (i : Int)
def good (l : List Int) : Prop := 3 ≤ l.length ∧ l.length ≤ 12 ∧ srt l = rng l.length
instance (l : List Int) : Decidable (good l) := by unfold good; exact inferInstance
def bellC (b : Int) : Nat := SIGNS.cps.toList.getD (b - 1).toNat 0
def textOf (l : List Int) : Str := ⟨(l.map bellC).toArray⟩
def bellOf (c : Nat) : Int := ((SIGNS.cps.toList.idxOf c : Nat) : Int) + 1
def perm (a b : List Int) : List Int := b.map fun i => a.getD (i - 1).toNat 0
def und (a : List Int) : List Int := (rng a.length).map fun b => ((a.idxOf b : Nat) : Int) + 1
def lowN (a : List Int) (i : Nat) : Nat := ((a.drop (i + 1)).filter fun b => decide (b < a.getD i 0)).length
def invN (a : List Int) : Nat → Nat
  | 0 => 0
  | i + 1 => invN a i + lowN a i
def oddV (a : List Int) : Bool := decide (((invN a a.length : Nat) : Int) % 2 = 1)
/-! ### promises -/
def oc (p : Prop) [Decidable p] (d : D) (C : Addr) : Oc := if p then .one d [] else .err C []
theorem oc_y {p : Prop} [Decidable p] {d : D} {C : Addr} (h : p) : oc p d C = .one d [] := if_pos h
theorem oc_n {p : Prop} [Decidable p] {d : D} {C : Addr} (h : ¬ p) : oc p d C = .err C [] := if_neg h
abbrev Rel := List D → Rs → Oc → Prop
def R_rounds (C : Addr) : Rel := fun ds r o => ∃ n : Nat, n ≤ 1000 ∧ ds = [.int n] ∧ r = [] ∧ o = oc (3 ≤ n ∧ n ≤ 12) (rowD (rng n)) C
def R_check_row (C : Addr) : Rel := fun ds r o => ∃ l : List Int, l.length ≤ 1000 ∧ ds = [rowD l] ∧ r = [] ∧ o = oc (good l) .non C
def R_row_text (C : Addr) : Rel := fun ds r o => ∃ l : List Int, l.length ≤ 1000 ∧ ds = [rowD l] ∧ r = [] ∧ o = oc (good l) (.str (textOf l)) C
def R_row_of (C : Addr) : Rel := fun ds r o => ∃ z : Str, z.length ≤ 1000 ∧ ds = [.str z] ∧ r = [] ∧ o = oc ((∀ c ∈ z.cps.toList, c ∈ SIGNS.cps.toList) ∧ good (z.cps.toList.map bellOf)) (rowD (z.cps.toList.map bellOf)) C
def R_permuted (C : Addr) : Rel := fun ds r o => ∃ a b : List Int, a.length ≤ 1000 ∧ b.length ≤ 1000 ∧ ds = [rowD a, rowD b] ∧ r = [] ∧ o = oc (good a ∧ good b ∧ a.length = b.length) (rowD (perm a b)) C
def R_undone (C : Addr) : Rel := fun ds r o => ∃ (a : List Int) (x : D), a.length ≤ 1000 ∧ ds = [x] ∧ (x = .tux (a.map D.int) ∨ (x = rowD a ∧ ¬ good a)) ∧ r = [] ∧ o = oc (good a) (rowD (und a)) C
def R_is_odd (C : Addr) : Rel := fun ds r o => ∃ l : List Int, l.length ≤ 1000 ∧ ds = [rowD l] ∧ r = [] ∧ o = oc (good l) (.bl (oddV l)) C
theorem nb_ints (l : List Int) : nbs (l.map D.int) = true := by
  induction l with
  | nil => rfl
  | cons a l ih => simp [nbs, nb, ih]
theorem pl_ints (l : List Int) : pls (l.map D.int) = true := by
  induction l with
  | nil => rfl
  | cons a l ih => simp [pls, pl, ih]
theorem dep_ints (l : List Int) : deps (l.map D.int) = 0 := by
  induction l with
  | nil => rfl
  | cons a l ih => simp [deps, dep, ih]
theorem sh_row (l : List Int) : sh (rowD l) = true := by
  unfold sh
  simp [pl, dep, pl_ints, dep_ints]
theorem ints_inj {a b : List Int} (h : a.map D.int = b.map D.int) : a = b := by
  induction a generalizing b with
  | nil => cases b with
    | nil => rfl
    | cons _ _ => simp at h
  | cons x a ih => cases b with
    | nil => simp at h
    | cons y b =>
      simp at h
      rw [h.1, ih h.2]
theorem eq_row (a b : List Int) : eqD (rowD a) (rowD b) = decide (a = b) := by
  rw [Bool.eq_iff_iff, eqD_iff (by simp [nb, nb_ints]) (by simp [nb, nb_ints]), decide_eq_true_eq]
  constructor
  · intro h
    injection h with h
    exact ints_inj h
  · intro h
    rw [h]
theorem rng_len (n : Nat) : (rng n).length = n := by simp [rng]
theorem rng_mem {n : Nat} {b : Int} : b ∈ rng n ↔ 1 ≤ b ∧ b ≤ n := by
  unfold rng
  rw [List.mem_map]
  constructor
  · rintro ⟨i, hi, rfl⟩
    have := List.mem_range.mp hi
    omega
  · rintro ⟨h1, h2⟩
    exact ⟨(b - 1).toNat, List.mem_range.mpr (by omega), by omega⟩
theorem good_perm {l : List Int} (h : good l) : l.Perm (rng l.length) := by
  have := srt_perm l
  rw [h.2.2] at this
  exact this.symm
theorem good_mem {l : List Int} (h : good l) {b : Int} : b ∈ l ↔ 1 ≤ b ∧ b ≤ l.length := by
  rw [(good_perm h).mem_iff, rng_mem]
theorem rg_rng (n : Nat) : rgD 1 (((n : Int) + 1) - 1).toNat = (rng n).map D.int := by
  unfold rgD rng
  rw [List.map_map, show ((n : Int) + 1 - 1).toNat = n by omega]
  rfl
section
variable {P : Program} {w : World} {K : PySem.W.Frag} {mg : Str → Option Value} {base : Heap} {T : Tb} {cRow : Addr} {f c Pt : Addr} {fd : FuncData} {uS : Value}
theorem sc_rounds : FnScope ["bells"] ["bells"] (defScope s_rounds) := ⟨rfl, rfl, rfl, by decide +kernel, rfl, by decide +kernel, by decide +kernel⟩
theorem ok_rounds (F : Fun K "rounds" "rounds" s_rounds f fd) (B : Bi mg) (e_RowError : Er K mg "RowError" cRow) : FnOk P w K mg base (L2.CX P w) 1 f fd ["bells"] (spR T K 1 (R_rounds cRow)) := by
  refine F.okX sc_rounds spR_len (fun cdv A outer s H vs Q E hr h => ⟨_, (pss_cons (ps_if (pt_not (pt_chain op_le op_le pe_int (pv 0) pe_int)) (pss_one (ps_raise rfl (takes_of (E := E) rfl rfl rfl rfl) (pmk_own PySem.F.excBase_ValueError e_RowError.x e_RowError.g e_RowError.k (raises_own e_RowError.b e_RowError.t) (by rfl)))) pss_nil)
      (pss_one (ps_ret (pe_tupRg rfl (by rfl) B.tuple (prg_2 (by rfl) B.range pe_int (pe_op op_add (pv 0) pe_int)))))), ?_⟩)
  refine keeps h (by decide) ?_
  rintro ds r o hl ⟨n, hn, rfl, rfl, rfl⟩
  refine sq_if (et_not (et_test (ev_chain ev_int (ev_var rfl) od_I0b (fun _ => ev_int) (fun _ => od_I0b)))) (fun hb => ?_) (fun hb => ?_)
  · have hn2 : ¬ (3 ≤ n ∧ n ≤ 12) := by simp at hb; omega
    refine sq_raise ?_
    rw [oc_n hn2]
    exact ⟨rfl, rfl⟩
  · have hn2 : 3 ≤ n ∧ n ≤ 12 := by simp at hb; omega
    refine sq_next (st_ret (ev_tupRg (er_2 ev_int (ev_op (ev_var rfl) ev_int od_I0i)) (by omega) (by omega)) ?_)
    rw [oc_y hn2, rg_rng]
    exact ⟨rfl, rfl⟩
theorem sc_check_row : FnScope ["row"] ["row"] (defScope s_check_row) := ⟨rfl, rfl, rfl, by decide +kernel, rfl, by decide +kernel, by decide +kernel⟩
theorem ok_check_row (F : Fun K "check_row" "check_row" s_check_row f fd) (B : Bi mg) (e_RowError : Er K mg "RowError" cRow) (c_rounds : Cal P w K mg base T "rounds" 1 ["bells"] (R_rounds cRow)) : FnOk P w K mg base (L2.CX P w) 2 f fd ["row"] (spR T K 1 (R_check_row cRow)) := by
  obtain ⟨f_r, fd_r, o_rounds, m_rounds, k_rounds, b_rounds⟩ := c_rounds.ex
  refine F.okX sc_check_row spR_len (fun cdv A outer s H vs Q E hr h => ⟨_, (pss_one (ps_if (pt_cmpR (r := rNeD K) (op_neD hr.units) (pe_tupX (by rfl) B.tuple (pe_callB (r := rSortedX K) cr_sortedX (by rfl) B.sorted (by decide +kernel) (pa_cons (pv 0) pa_nil))) (pe_call o_rounds (hr.mono (by decide)) (by rfl) m_rounds k_rounds b_rounds .nil (passes_call (takes_of (E := E) rfl rfl rfl rfl) (fun _ _ _ _ h => h)) (pa_cons (pe_callB (r := rLenX K) call_len (by rfl) B.len PySem.boot_len (pa_cons (pv 0) pa_nil)) pa_nil)) (nomark _)) (pss_one (ps_raise rfl (takes_of (E := E) rfl rfl rfl rfl) (pmk_own PySem.F.excBase_ValueError e_RowError.x e_RowError.g e_RowError.k (raises_own e_RowError.b e_RowError.t) (by rfl)))) pss_nil)), ?_⟩)
  refine keeps h (by decide) ?_
  rintro ds r o hl ⟨l, hn, rfl, rfl, rfl⟩
  have e1 : Ev T K (tThen (tCB (rSortedX K) (tCons (tVar 0) tNil)) (kTupX K)) [some (rowD l)] [] (rowD (srt l)) [] := ev_tux (ev_tupX (en_sorted (ea_cons (ev_var rfl) ea_nil) vs_t).ev vl_f)
  have e2 : ∀ E : XK, EvA T K (tCons (tCB _ (tCons (tVar 0) tNil)) tNil) [some (rowD l)] [] [.int ((l.map D.int).length : Int)] [] := fun _ => ea_cons (ev_cb (ea_cons (ev_var rfl) ea_nil) (ca_len vs_t)) ea_nil
  by_cases h3 : 3 ≤ l.length ∧ l.length ≤ 12
  · have e3 := ev_callC (E := E) (n := 1) (R := R_rounds cRow) (K := K) (T := T) ⟨l.length, hn, by rw [List.length_map], rfl, (oc_y h3).symm⟩ (e2 E) rfl
    refine st_if (et_test (ev_op e1 e3 (od_neD vd_f vd_f (sh_row _) (sh_row _)))) (fun hb => ?_) (fun hb => ?_)
    · have hg : ¬ good l := fun g => by
        rw [eq_row, g.2.2] at hb
        simp at hb
      refine st_raise ?_
      rw [oc_n hg]
      exact ⟨rfl, rfl⟩
    · have hg : good l := ⟨h3.1, h3.2, by rw [eq_row] at hb; simpa using hb⟩
      refine st_next ?_
      rw [oc_y hg]
      exact ⟨rfl, rfl⟩
  · have hg : ¬ good l := fun g => h3 ⟨g.1, g.2.1⟩
    have e3 := ex_callC (E := E) (n := 1) (R := R_rounds cRow) (K := K) (T := T) ⟨l.length, hn, by rw [List.length_map], rfl, (oc_n h3).symm⟩ (e2 E) rfl
    refine st_exT (ex_opR e1 e3) ?_
    rw [oc_n hg]
    exact ⟨rfl, rfl⟩
/-- the call of check_row on a row -/
theorem chk {E : XK} {f0 : Addr} {g : G} {ta : TE} {r1 r2 : Rs} {l : List Int} (hl : l.length ≤ 1000) (hg : good l) (h : Ev T K ta g r1 (rowD l) r2) : Ev T K (tCall (spR T K 1 (R_check_row cRow)) [] E (tCons ta tNil)) g r1 .non r2 :=
  ev_callC (n := 1) ⟨l, hl, rfl, rfl, (oc_y hg).symm⟩ (ea_cons h ea_nil) rfl
theorem chkX {E : XK} {f0 : Addr} {g : G} {ta : TE} {r1 r2 : Rs} {l : List Int} (hl : l.length ≤ 1000) (hg : ¬ good l) (h : Ev T K ta g r1 (rowD l) r2) : EvX T K E (tCall (spR T K 1 (R_check_row cRow)) [] E (tCons ta tNil)) g r1 cRow r2 :=
  ex_callC (n := 1) ⟨l, hl, rfl, rfl, (oc_n hg).symm⟩ (ea_cons h ea_nil) rfl
theorem getD_map {α β : Type} (f : α → β) (l : List α) (i : Nat) (a : α) : (l.map f).getD i (f a) = f (l.getD i a) := by
  rw [List.getD_eq_getElem?_getD, List.getD_eq_getElem?_getD, List.getElem?_map]
  cases l[i]? <;> rfl
theorem get_int {l : List Int} {i : Nat} {d : D} (h : (l.map D.int)[i]? = some d) : i < l.length ∧ d = .int (l.getD i 0) := by
  rw [List.getElem?_map] at h
  cases q : l[i]? with
  | none => rw [q] at h; cases h
  | some a =>
    rw [q] at h
    cases h
    refine ⟨(List.getElem?_eq_some_iff.mp q).1, ?_⟩
    rw [List.getD_eq_getElem?_getD, q]
    rfl
theorem getD_mem0 {l : List Int} {i : Nat} (h : i < l.length) : l.getD i 0 ∈ l := by
  rw [List.getD_eq_getElem?_getD, List.getElem?_eq_getElem h]
  exact List.getElem_mem h
theorem signs_len : SIGNS.cps.toList.length = 12 := by decide +kernel
theorem signs_sz : SIGNS.length ≤ 100000 := by decide +kernel
theorem sc_row_text : FnScope ["row", "bell"] ["row"] (defScope s_row_text) := ⟨rfl, rfl, rfl, by decide +kernel, rfl, by decide +kernel, by decide +kernel⟩
theorem ok_row_text (F : Fun K "row_text" "row_text" s_row_text f fd) (B : Bi mg) (g_SIGNS_OF_BELLS : mg "SIGNS_OF_BELLS" = some uS ∧ RelV (.str SIGNS) uS) (c_check_row : Cal P w K mg base T "check_row" 2 ["row"] (R_check_row cRow)) : FnOk P w K mg base (L2.CX P w) 3 f fd ["row"] (spR T K 1 (R_row_text cRow)) := by
  obtain ⟨f_r, fd_r, o_check_row, m_check_row, k_check_row, b_check_row⟩ := c_check_row.ex
  refine F.okX sc_row_text spR_len (fun cdv A outer s H vs Q E hr h => ⟨_, (pss_cons (ps_expr (pe_call o_check_row (hr.mono (by decide)) (by rfl) m_check_row k_check_row b_check_row .nil (passes_call (takes_of (E := E) rfl rfl rfl rfl) (fun _ _ _ _ h => h)) (pa_cons (pv 0) pa_nil)))
      (pss_one (ps_ret (pe_join pe_str (pe_lc (own := [("bell", 1)]) rfl sc_row_text.nd (pi_tup (pv 0)) (blkOk_by (N := ["row", "bell"]) (by kernel_rfl)) (fun _ _ _ _ _ => (pg_name (i := 1) sc_row_text.nd rfl (by first | exact Or.inl rfl | exact Or.inr rfl))) (fun _ _ _ _ _ => pts_nil) (fun _ _ _ _ _ => (pe_ix (r := rIxS) ix_str (pe_glob (by rfl) g_SIGNS_OF_BELLS.1 g_SIGNS_OF_BELLS.2) (pe_op op_sub (pv 1) pe_int) (fun _ _ => rfl)))))))), ?_⟩)
  refine keeps h (by decide) ?_
  rintro ds r o hl ⟨l, hn, rfl, rfl, rfl⟩
  by_cases hg : good l
  · refine sq_drop (chk (f0 := f_r) hn hg (ev_var rfl)) ?_
    refine st_ret (ev_joinS (cs := l.map bellC) (EvN.ev (en_lc (ds := l.map D.int) (out := (l.map bellC).map sgn) (ro := []) (ei_tup (ev_var rfl)) (fun i acc r' => acc = ((l.take i).map bellC).map sgn ∧ r' = []) ⟨rfl, rfl⟩ (by simp; omega) ?_ ?_)) vs_f (by simp; omega)) ?_
    · rintro i d acc r' hd ⟨rfl, rfl⟩
      obtain ⟨hi, rfl⟩ := get_int hd
      have hm := (good_mem hg).mp (getD_mem0 hi)
      have h12 := hg.2.1
      refine ⟨_, _, eg_name, by simp, true, [], et_yes, fun _ => ⟨_, _, ev_op ev_str (ev_op (ev_var rfl) ev_int od_I0i) (od_ixStr signs_sz (by omega) (by rw [signs_len]; omega)), ?_, rfl⟩, fun z => by cases z⟩
      rw [List.take_succ, List.getElem?_eq_getElem hi, List.map_append, List.map_append]
      simp [bellC, List.getD_eq_getElem?_getD, List.getElem?_eq_getElem hi]
    · rintro acc r' ⟨rfl, rfl⟩
      refine ⟨?_, rfl⟩
      rw [List.length_map, List.take_length]
    · rw [oc_y hg]
      exact ⟨rfl, rfl⟩
  · refine sq_exE (chkX (f0 := f_r) hn hg (ev_var rfl)) ?_
    rw [oc_n hg]
    exact ⟨rfl, rfl⟩
theorem sc_row_of : FnScope ["text", "sign", "found"] ["text"] (defScope s_row_of) := ⟨rfl, rfl, rfl, by decide +kernel, rfl, by decide +kernel, by decide +kernel⟩
theorem ok_row_of (F : Fun K "row_of" "row_of" s_row_of f fd) (hc : fd.code = .ref c) (B : Bi mg) (TBrow_of : GxR.TabB base mg c Pt) (hP : Pt ∈ T.gs) (e_RowError : Er K mg "RowError" cRow) (g_SIGNS_OF_BELLS : mg "SIGNS_OF_BELLS" = some uS ∧ RelV (.str SIGNS) uS) (c_check_row : Cal P w K mg base T "check_row" 2 ["row"] (R_check_row cRow)) : FnOk P w K mg base (L2.CX P w) 3 f fd ["text"] (spR T K 1 (R_row_of cRow)) := by
  obtain ⟨f_r, fd_r, o_check_row, m_check_row, k_check_row, b_check_row⟩ := c_check_row.ex
  refine okC F hc sc_row_of spR_len (fun A outer s H vs Q E hr h => ⟨_, (pss_cons (ps_if (pt_val (pe_anyGen hr (by rfl) B.any TBrow_of rfl (gs_by (by kernel_rfl)) (pv 0) iw_str (gp_notInS gp_item (gp_glob (by rfl) g_SIGNS_OF_BELLS.1 g_SIGNS_OF_BELLS.2) rfl) (fun _ => rfl))) (pss_one (ps_raise rfl (takes_of (E := E) rfl rfl rfl rfl) (pmk_own PySem.F.excBase_ValueError e_RowError.x e_RowError.g e_RowError.k (raises_own e_RowError.b e_RowError.t) (by rfl)))) pss_nil)
      (pss_cons (ps_set (i := 2) sc_row_of.nd rfl (by first | exact Or.inl rfl | exact Or.inr rfl) (pe_tupGen hr (by rfl) B.tuple TBrow_of rfl (gs_by (by kernel_rfl)) (pv 0) iw_str (gp_add (gp_idxS (gp_glob (by rfl) g_SIGNS_OF_BELLS.1 g_SIGNS_OF_BELLS.2) gp_item (fun _ => rfl) (fun _ => rfl) rfl (fun _ => rfl) (fun _ => rfl) (fun _ => rfl)) gp_int) (fun _ => rfl)))
      (pss_cons (ps_expr (pe_call o_check_row (hr.mono (by decide)) (by rfl) m_check_row k_check_row b_check_row .nil (passes_call (takes_of (E := E) rfl rfl rfl rfl) (fun _ _ _ _ h => h)) (pa_cons (pv 2) pa_nil)))
      (pss_one (ps_ret (pv 2)))))), ?_⟩)
  refine keeps h (by decide) ?_
  rintro ds r o hl ⟨z, hn, rfl, rfl, rfl⟩
  have hz : (z.cps.toList.map bellOf).length ≤ 1000 := by rw [List.length_map]; simpa [Str.length] using hn
  have e1 : Ev T K (tGAny Pt iwS (elNotInS elItem (elC (.str SIGNS))) (tVar 0)) [some (.str z), none, none] [] (.bl ((z.cps.toList.map sgn).any fun d => match d with | .str s => !decide (s.cps.toList.getD 0 0 ∈ SIGNS.cps.toList) | _ => false)) [] := by
    refine ev_anyGen hP (ev_var rfl) iwd_str fun d hd => ?_
    obtain ⟨c, hc, rfl⟩ := List.mem_map.mp hd
    exact el_notInS el_item el_str
  refine sq_if (et_B e1) (fun hb => ?_) (fun hb => ?_)
  · have hg : ¬ ((∀ c ∈ z.cps.toList, c ∈ SIGNS.cps.toList) ∧ good (z.cps.toList.map bellOf)) := fun g => by
      rw [List.any_eq_true] at hb
      obtain ⟨d, h1, h2⟩ := hb
      obtain ⟨c, h3, rfl⟩ := List.mem_map.mp h1
      have := g.1 c h3
      simp at h2
      exact h2 (by simpa using this)
    refine sq_raise ?_
    rw [oc_n hg]
    exact ⟨rfl, rfl⟩
  · have hin : ∀ c ∈ z.cps.toList, c ∈ SIGNS.cps.toList := fun c h3 => by
      rw [List.any_eq_false] at hb
      have := hb (sgn c) (List.mem_map.mpr ⟨c, h3, rfl⟩)
      simpa using this
    refine sq_next ?_
    have e2 : Ev T K (tGTup Pt iwS (elAdd (elIdxS (elC (.str SIGNS)) elItem) (elC (.int 1))) (tVar 0)) [some (.str z), none, none] [] (rowD (z.cps.toList.map bellOf)) [] := by
      have q := ev_tupGen (T := T) (K := K) (P := Pt) (g := [some (.str z), none, none]) (r := []) (r1 := []) (te := tVar 0) (x := .str z) (iw := iwS) (el := elAdd (elIdxS (elC (.str SIGNS)) elItem) (elC (.int 1))) (ds := z.cps.toList.map sgn)
        (fd := fun d => match d with | .str s => .int (bellOf (s.cps.toList.getD 0 0)) | _ => .non) hP (ev_var rfl) iwd_str (fun d hd => ?_) (by rw [List.length_map] at hz ⊢; omega)
      · have q2 := ev_tux q
        rw [List.map_map] at q2
        have e : (z.cps.toList.map bellOf).map D.int = z.cps.toList.map ((fun d => match d with | .str s => D.int (bellOf (s.cps.toList.getD 0 0)) | _ => .non) ∘ sgn) := by
          rw [List.map_map]
          rfl
        show Ev T K _ _ _ (.tup ((z.cps.toList.map bellOf).map D.int)) _
        rw [e]
        exact q2
      · obtain ⟨c, h3, rfl⟩ := List.mem_map.mp hd
        exact el_add (el_idxS el_str el_item (occ_signs c (hin c h3))) el_int
    refine sq_set e2 ?_
    by_cases hg : good (z.cps.toList.map bellOf)
    · refine sq_drop (chk (f0 := f_r) hz hg (ev_var rfl)) (st_ret (ev_var rfl) ?_)
      rw [oc_y ⟨hin, hg⟩]
      exact ⟨rfl, rfl⟩
    · refine sq_exE (chkX (f0 := f_r) hz hg (ev_var rfl)) ?_
      rw [oc_n fun q => hg q.2]
      exact ⟨rfl, rfl⟩
theorem sc_permuted : FnScope ["row", "other", "bell"] ["row", "other"] (defScope s_permuted) := ⟨rfl, rfl, rfl, by decide +kernel, rfl, by decide +kernel, by decide +kernel⟩
theorem ok_permuted (F : Fun K "permuted" "permuted" s_permuted f fd) (hc : fd.code = .ref c) (B : Bi mg) (TBpermuted : GxR.TabB base mg c Pt) (hP : Pt ∈ T.gs) (e_RowError : Er K mg "RowError" cRow) (c_check_row : Cal P w K mg base T "check_row" 2 ["row"] (R_check_row cRow)) : FnOk P w K mg base (L2.CX P w) 3 f fd ["row", "other"] (spR T K 2 (R_permuted cRow)) := by
  obtain ⟨f_r, fd_r, o_check_row, m_check_row, k_check_row, b_check_row⟩ := c_check_row.ex
  refine okC F hc sc_permuted spR_len (fun A outer s H vs Q E hr h => ⟨_, (pss_cons (ps_expr (pe_call o_check_row (hr.mono (by decide)) (by rfl) m_check_row k_check_row b_check_row .nil (passes_call (takes_of (E := E) rfl rfl rfl rfl) (fun _ _ _ _ h => h)) (pa_cons (pv 0) pa_nil)))
      (pss_cons (ps_expr (pe_call o_check_row (hr.mono (by decide)) (by rfl) m_check_row k_check_row b_check_row .nil (passes_call (takes_of (E := E) rfl rfl rfl rfl) (fun _ _ _ _ h => h)) (pa_cons (pv 1) pa_nil)))
      (pss_cons (ps_if (pt_cmpR op_ne (pe_callB (r := rLenX K) call_len (by rfl) B.len PySem.boot_len (pa_cons (pv 0) pa_nil)) (pe_callB (r := rLenX K) call_len (by rfl) B.len PySem.boot_len (pa_cons (pv 1) pa_nil)) (nomark _)) (pss_one (ps_raise rfl (takes_of (E := E) rfl rfl rfl rfl) (pmk_own PySem.F.excBase_ValueError e_RowError.x e_RowError.g e_RowError.k (raises_own e_RowError.b e_RowError.t) (by rfl)))) pss_nil)
      (pss_one (ps_ret (pe_tupGen hr (by rfl) B.tuple TBpermuted rfl (gs_by (by kernel_rfl)) (pv 1) iw_tup (gp_ixT (gp_var 0 (by rfl) (by rfl)) (gp_sub gp_item gp_int) (fun _ _ => rfl)) (fun _ => rfl))))))), ?_⟩)
  refine keeps h (by decide) ?_
  rintro ds r o hl ⟨a, b, ha, hb, rfl, rfl, rfl⟩
  by_cases ga : good a
  · refine sq_drop (chk (f0 := f_r) ha ga (ev_var rfl)) ?_
    by_cases gb : good b
    · refine sq_drop (chk (f0 := f_r) hb gb (ev_var rfl)) ?_
      refine sq_if (et_test (ev_op (ev_cb (ea_cons (ev_var rfl) ea_nil) (ca_len vs_t)) (ev_cb (ea_cons (ev_var rfl) ea_nil) (ca_len vs_t)) od_neI)) (fun hq => ?_) (fun hq => ?_)
      · refine sq_raise ?_
        have hn : ¬ (good a ∧ good b ∧ a.length = b.length) := fun z => by simp at hq; omega
        rw [oc_n hn]
        exact ⟨rfl, rfl⟩
      · have he : a.length = b.length := by simp at hq; omega
        refine sq_next (st_ret (ev_tux (ev_tupGen (ds := b.map D.int) (fd := fun d => match d with | .int i => .int (a.getD (i - 1).toNat 0) | _ => .non) hP (ev_var rfl) iwd_tup (fun d hd => ?_) (by simp; omega))) ?_)
        · obtain ⟨i, hi, rfl⟩ := List.mem_map.mp hd
          have hm := (good_mem gb).mp hi
          refine el_ixT (el_var rfl) (el_sub el_item el_int) (atI_of (by omega) ?_)
          have hlt : (i - 1).toNat < a.length := by omega
          show _ = some (D.int (a.getD (i - 1).toNat 0))
          rw [List.getElem?_map, List.getD_eq_getElem?_getD, List.getElem?_eq_getElem hlt]
          rfl
        · rw [oc_y ⟨ga, gb, he⟩]
          refine ⟨?_, rfl⟩
          unfold rowD perm
          rw [List.map_map, List.map_map]
          rfl
    · refine sq_exE (chkX (f0 := f_r) hb gb (ev_var rfl)) ?_
      rw [oc_n fun q => gb q.2.1]
      exact ⟨rfl, rfl⟩
  · refine sq_exE (chkX (f0 := f_r) ha ga (ev_var rfl)) ?_
    rw [oc_n fun q => ga q.1]
    exact ⟨rfl, rfl⟩
theorem sc_undone : FnScope ["row", "bell"] ["row"] (defScope s_undone) := ⟨rfl, rfl, rfl, by decide +kernel, rfl, by decide +kernel, by decide +kernel⟩
theorem ok_undone (F : Fun K "undone" "undone" s_undone f fd) (hc : fd.code = .ref c) (B : Bi mg) (TBundone : GxR.TabB base mg c Pt) (hP : Pt ∈ T.gs) (c_rounds : Cal P w K mg base T "rounds" 1 ["bells"] (R_rounds cRow)) (c_check_row : Cal P w K mg base T "check_row" 2 ["row"] (R_check_row cRow)) : FnOk P w K mg base (L2.CX P w) 3 f fd ["row"] (spR T K 1 (R_undone cRow)) := by
  obtain ⟨f_r, fd_r, o_check_row, m_check_row, k_check_row, b_check_row⟩ := c_check_row.ex
  obtain ⟨f_r2, fd_r2, o_rounds, m_rounds, k_rounds, b_rounds⟩ := c_rounds.ex
  refine okC F hc sc_undone spR_len (fun A outer s H vs Q E hr h => ⟨_, (pss_cons (ps_expr (pe_call o_check_row (hr.mono (by decide)) (by rfl) m_check_row k_check_row b_check_row .nil (passes_call (takes_of (E := E) rfl rfl rfl rfl) (fun _ _ _ _ h => h)) (pa_cons (pv 0) pa_nil)))
      (pss_one (ps_ret (pe_tupGen hr (by rfl) B.tuple TBundone rfl (gs_by (by kernel_rfl)) (pe_call o_rounds (hr.mono (by decide)) (by rfl) m_rounds k_rounds b_rounds .nil (passes_call (takes_of (E := E) rfl rfl rfl rfl) (fun _ _ _ _ h => h)) (pa_cons (pe_callB (r := rLenX K) call_len (by rfl) B.len PySem.boot_len (pa_cons (pv 0) pa_nil)) pa_nil)) iw_tup (gp_add (gp_idxT (gp_var 0 (by rfl) (by rfl)) gp_item (fun _ => rfl) (fun _ => rfl) rfl (fun _ => rfl) (fun _ => rfl) (fun _ => rfl)) gp_int) (fun _ => rfl))))), ?_⟩)
  refine keeps h (by decide) ?_
  rintro ds r o hl ⟨a, x, ha, rfl, hx, rfl, rfl⟩
  by_cases ga : good a
  · have hx' : x = .tux (a.map D.int) := by
      rcases hx with z | z
      · exact z
      · exact (z.2 ga).elim
    subst hx'
    refine sq_drop (chk (f0 := f_r) ha ga (ev_varW rfl)) ?_
    have e0 : Ev T K (tCall (spR T K 1 (R_rounds cRow)) [] E (tCons (tCB _ (tCons (tVar 0) tNil)) tNil)) [some (.tux (a.map D.int)), none] [] (rowD (rng a.length)) [] :=
      ev_callC (n := 1) ⟨a.length, ha, by rw [List.length_map], rfl, (oc_y ⟨ga.1, ga.2.1⟩).symm⟩ (ea_cons (ev_cb (ea_cons (ev_varW rfl) ea_nil) (ca_len vs_t)) ea_nil) rfl
    refine st_ret (ev_tux (ev_tupGen (ds := (rng a.length).map D.int) (fd := fun d => match d with | .int i => .int (((a.idxOf i : Nat) : Int) + 1) | _ => .non) hP e0 iwd_tup (fun d hd => ?_) (by simp [rng_len]; omega))) ?_
    · obtain ⟨i, hi, rfl⟩ := List.mem_map.mp hd
      have hm : i ∈ a := (good_perm ga).mem_iff.mpr hi
      exact el_add (el_idxT (el_var rfl) el_item hm) el_int
    · rw [oc_y ga]
      refine ⟨?_, rfl⟩
      unfold rowD und
      rw [List.map_map, List.map_map]
      rfl
  · have e : Ev T K (tVar 0) ([x].map some ++ List.replicate (["row", "bell"].length - 1) none) [] (rowD a) [] := by
      rcases hx with z | ⟨z, _⟩
      · subst z; exact ev_varW rfl
      · subst z; exact ev_var rfl
    refine sq_exE (chkX (f0 := f_r) ha ga e) ?_
    rw [oc_n ga]
    exact ⟨rfl, rfl⟩
end
end Bs
namespace Bs
open PySem PySem.Spec PyProof.Rows L2 DL GX GxR







/-! ### plain -/
def stp (row : List Int) (b : Int) : Int := row.getD (b - 1).toNat 0
def cyI (row : List Int) : Nat → List Int → List Int → Int → List Int × List Int × Int
  | 0, left, ring, here => (left, ring, here)
  | n + 1, left, ring, here => if here ∈ left then cyI row n (left.erase here) (ring ++ [here]) (stp row here) else (left, ring, here)
def cyO (row : List Int) : Nat → List Int → List (List Int) → List (List Int)
  | 0, _, found => found
  | n + 1, left, found => if left = [] then found else cyO row n (cyI row left.length left [] (left.getD 0 0)).1 (found ++ [(cyI row left.length left [] (left.getD 0 0)).2.1])
def cyc (row : List Int) : List (List Int) := cyO row row.length (rng row.length) []
def R_cycles (C : Addr) : Rel := fun ds r o => ∃ l : List Int, l.length ≤ 1000 ∧ ds = [rowD l] ∧ r = [] ∧ o = oc (good l) (.tup ((cyc l).map rowD)) C
section
variable {P : Program} {w : World} {K : PySem.W.Frag} {mg : Str → Option Value} {base : Heap} {T : Tb} {cRow : Addr} {f c Pt : Addr} {fd : FuncData} {uS : Value}
theorem filt_int (l : List Int) (p : Int → Bool) (q : D → Bool) (h : ∀ b, q (.int b) = p b) : (l.map D.int).filter q = (l.filter p).map D.int := by
  induction l with
  | nil => rfl
  | cons a l ih =>
    rw [List.map_cons, List.filter_cons, List.filter_cons, h, ih]
    split <;> rfl
theorem sc_is_odd : FnScope ["row", "found", "place", "bell"] ["row"] (defScope s_is_odd) := ⟨rfl, rfl, rfl, by decide +kernel, rfl, by decide +kernel, by decide +kernel⟩
theorem ok_is_odd (F : Fun K "is_odd" "is_odd" s_is_odd f fd) (B : Bi mg) (c_check_row : Cal P w K mg base T "check_row" 2 ["row"] (R_check_row cRow)) : FnOk P w K mg base (L2.CX P w) 3 f fd ["row"] (spR T K 1 (R_is_odd cRow)) := by
  obtain ⟨f_r, fd_r, o_check_row, m_check_row, k_check_row, b_check_row⟩ := c_check_row.ex
  refine F.okX sc_is_odd spR_len (fun cdv A outer s H vs Q E hr h => ⟨_, (pss_cons (ps_expr (pe_call o_check_row (hr.mono (by decide)) (by rfl) m_check_row k_check_row b_check_row .nil (passes_call (takes_of (E := E) rfl rfl rfl rfl) (fun _ _ _ _ h => h)) (pa_cons (pv 0) pa_nil)))
      (pss_cons (ps_set (i := 1) sc_is_odd.nd rfl (by first | exact Or.inl rfl | exact Or.inr rfl) pe_int)
      (pss_cons (ps_for (passes_of rfl) rfl (pi_range1 rfl B.range (pa_cons (pe_callB (r := rLenX K) call_len (by rfl) B.len PySem.boot_len (pa_cons (pv 0) pa_nil)) pa_nil)) (pg_name (i := 2) sc_is_odd.nd rfl (by first | exact Or.inl rfl | exact Or.inr rfl)) (pss_one (ps_aug (i := 1) sc_is_odd.nd rfl (by first | exact Or.inl rfl | exact Or.inr rfl) (pe_callB (r := rLenX K) call_len (by rfl) B.len PySem.boot_len (pa_cons (pe_lc (own := [("bell", 3)]) rfl sc_is_odd.nd (pi_tup (pe_slice (r := rSlA K) sl_tupA (pv 0) (po_some (pe_op op_add (pv 2) pe_int)) po_none)) (blkOk_by (N := ["row", "found", "place", "bell"]) (by kernel_rfl)) (fun _ _ _ _ _ => (pg_name (i := 3) sc_is_odd.nd rfl (by first | exact Or.inl rfl | exact Or.inr rfl))) (fun _ _ _ _ _ => (pts_one (pt_cmpR op_lt (pv 3) (pe_ix (r := rIxT K) ix_tup (pv 0) (pv 2) (fun _ _ => rfl)) (nomark _)))) (fun _ _ _ _ _ => pe_int)) pa_nil)) ip_add)))
      (pss_one (ps_ret (pe_cmpR op_eq (pe_op op_mod (pv 1) pe_int) pe_int (nomark _))))))), ?_⟩)
  refine keeps h (by decide) ?_
  rintro ds r o hl ⟨l, hn, rfl, rfl, rfl⟩
  by_cases hg : good l
  · refine sq_drop (chk (f0 := f_r) hn hg (ev_var rfl)) (sq_set ev_int ?_)
    refine st_seq (M := fun g r => ∃ x, g = [some (rowD l), some (.int (invN l l.length : Nat)), x, none] ∧ r = []) (st_for (ei_rg1 (ea_cons (ev_cb (ea_cons (ev_var rfl) ea_nil) (ca_len vs_t)) ea_nil) (by simp; omega)) (fun i g r => ∃ x, g = [some (rowD l), some (.int (invN l i : Nat)), x, none] ∧ r = []) ⟨_, rfl, rfl⟩ ?_ ?_) ?_
    · rintro i d g r hd ⟨x, rfl, rfl⟩
      have hil : i < l.length := by
        have := (List.getElem?_eq_some_iff.mp hd).1
        simpa [rgD] using this
      have hde : d = .int (i : Int) := by
        unfold rgD at hd
        rw [List.getElem?_map, List.getElem?_range (by simpa using hil)] at hd
        simp at hd
        exact hd.symm
      subst hde
      refine ⟨_, _, eg_name, ?_⟩
      have e1 : EvN T K (tLc (iTup K (tSl (rSlA K) (tVar 0) (tPart (tOp (rI0 fun i j => .int (i + j)) (tVar 2) (tC (.int 1)))) tNoPart)) (gName 3) (tTest (tOp (rI0 fun i j => .bl (decide (i < j))) (tVar 3) (tOp (rIxT K) (tVar 0) (tVar 2)))) (tC (.int 1)) [3])
          [some (rowD l), some (.int (invN l i : Nat)), some (.int (i : Int)), none] [] ((((l.drop (i + 1)).map D.int).filter fun d => match d with | .int b => decide (b < l.getD i 0) | _ => false).map fun _ => .int 1) [] := by
        have e0 : EvI T K (iTup K (tSl (rSlA K) (tVar 0) (tPart (tOp (rI0 fun i j => .int (i + j)) (tVar 2) (tC (.int 1)))) tNoPart)) [some (rowD l), some (.int (invN l i : Nat)), some (.int (i : Int)), none] [] (cutD (l.map D.int) (some ((i : Int) + 1)) none) [] :=
          ei_tup (ev_slT (ev_var rfl) (eo_some (ev_op (ev_var rfl) ev_int od_I0i)) eo_none)
        rw [cut_from (by omega), show (((i : Int) + 1)).toNat = i + 1 by omega, ← List.map_drop] at e0
        refine en_lcF e0 (by simp; omega) _ _ fun j d hd => ?_
        obtain ⟨hj, rfl⟩ := get_int hd
        refine ⟨_, _, eg_name, by simp, ?_, fun _ => ev_int⟩
        refine et_of_eq (b := decide (l.getD (i + 1 + j) 0 < l.getD i 0)) ?_ ?_
        · have e3 : (l.drop (i + 1)).getD j 0 = l.getD (i + 1 + j) 0 := by simp [List.getD_eq_getElem?_getD]
          rw [e3]
          refine et_test (ev_op (ev_var rfl) (ev_op (ev_var rfl) (ev_var rfl) (od_ixRow (by omega) (by omega))) ?_)
          exact od_I0b
        · simp [List.getD_eq_getElem?_getD]
      refine st_aug rfl (ev_cb (ea_cons e1.ev ea_nil) (ca_len vs_f)) ?_
      refine ⟨some (.int (i : Int)), ?_, rfl⟩
      rw [filt_int _ (fun b => decide (b < l.getD i 0)) _ (fun b => rfl), List.length_map, List.length_map]
      simp [invN, lowN]
    · rintro g r ⟨x, rfl, rfl⟩
      have : (rgD 0 ((l.map D.int).length : Int).toNat).length = l.length := by simp [rgD]
      rw [this]
      exact ⟨x, rfl, rfl⟩
    · rintro g r ⟨x, rfl, rfl⟩
      refine st_ret (ev_op (ev_op (ev_var rfl) ev_int (od_I (by omega))) ev_int od_eqI) ?_
      rw [oc_y hg]
      exact ⟨rfl, rfl⟩
  · refine sq_exE (chkX (f0 := f_r) hn hg (ev_var rfl)) ?_
    rw [oc_n hg]
    exact ⟨rfl, rfl⟩
theorem ints_app (a b : List Int) : a.map D.int ++ b.map D.int = (a ++ b).map D.int := by rw [List.map_append]
theorem vd_il {p : Addr} {l : List Int} {r : Rs} (j : Nat) (h : r[j]? = some (rl p (l.map D.int))) : Vd (.ref p) r (.lst (l.map D.int)) := vd_o j h
theorem sh_il (l : List Int) : sh (.lst (l.map D.int)) = true := by
  unfold sh
  simp [pl, dep, pl_ints, dep_ints]
theorem eq_il (a b : List Int) : eqD (.lst (a.map D.int)) (.lst (b.map D.int)) = decide (a = b) := by
  rw [Bool.eq_iff_iff, eqD_iff (by simp [nb, nb_ints]) (by simp [nb, nb_ints]), decide_eq_true_eq]
  constructor
  · intro h
    injection h with h
    exact ints_inj h
  · intro h
    rw [h]
theorem stp_mem {l : List Int} (hg : good l) {b : Int} (h : 1 ≤ b ∧ b ≤ l.length) : 1 ≤ stp l b ∧ stp l b ≤ l.length := (good_mem hg).mp (getD_mem0 (by omega))
theorem cyI_stop {row : List Int} {n : Nat} {left ring : List Int} {here : Int} (h : here ∉ left) : cyI row n left ring here = (left, ring, here) := by
  cases n with
  | zero => rfl
  | succ n => exact if_neg h
theorem cyI_len {row : List Int} : ∀ (n : Nat) (left ring : List Int) (here : Int), (cyI row n left ring here).1.length ≤ left.length ∧ ∀ b ∈ (cyI row n left ring here).1, b ∈ left
  | 0, left, ring, here => ⟨Nat.le_refl _, fun b h => h⟩
  | n + 1, left, ring, here => by
    unfold cyI
    split
    · rename_i h
      obtain ⟨h1, h2⟩ := cyI_len n (left.erase here) (ring ++ [here]) (stp row here)
      have := List.length_erase_of_mem h
      exact ⟨by omega, fun b hb => List.mem_of_mem_erase (h2 b hb)⟩
    · exact ⟨Nat.le_refl _, fun b h => h⟩
theorem cyI_lt {row left ring : List Int} {here : Int} (h : here ∈ left) : (cyI row left.length left ring here).1.length < left.length := by
  obtain ⟨k, hk⟩ : ∃ k, left.length = k + 1 := ⟨left.length - 1, by have := List.length_pos_of_mem h; omega⟩
  rw [hk]
  unfold cyI
  rw [if_pos h]
  have h1 := (cyI_len (row := row) k (left.erase here) (ring ++ [here]) (stp row here)).1
  have := List.length_erase_of_mem h
  omega
theorem getD0_mem {l : List Int} (h : l ≠ []) : l.getD 0 0 ∈ l := getD_mem0 (List.length_pos_iff.mpr h)
theorem cyO_fuel {row : List Int} : ∀ (n m : Nat) (left : List Int) (found : List (List Int)), left.length ≤ n → left.length ≤ m → cyO row n left found = cyO row m left found
  | 0, m, left, found, h1, h2 => by
    have e : left = [] := List.length_eq_zero_iff.mp (by omega)
    subst e
    cases m with
    | zero => rfl
    | succ m => simp [cyO]
  | n + 1, m, left, found, h1, h2 => by
    by_cases e : left = []
    · subst e
      cases m with
      | zero => simp [cyO]
      | succ m => simp [cyO]
    · have hpos := List.length_pos_iff.mpr e
      obtain ⟨k, rfl⟩ : ∃ k, m = k + 1 := ⟨m - 1, by omega⟩
      unfold cyO
      rw [if_neg e, if_neg e]
      have hlt := cyI_lt (row := row) (ring := []) (getD0_mem e)
      exact cyO_fuel n k _ _ (by omega) (by omega)
theorem sc_cycles : FnScope ["row", "left", "found", "here", "ring"] ["row"] (defScope s_cycles) := ⟨rfl, rfl, rfl, by decide +kernel, rfl, by decide +kernel, by decide +kernel⟩
theorem ok_cycles (F : Fun K "cycles" "cycles" s_cycles f fd) (B : Bi mg) (c_rounds : Cal P w K mg base T "rounds" 1 ["bells"] (R_rounds cRow)) (c_check_row : Cal P w K mg base T "check_row" 2 ["row"] (R_check_row cRow)) : FnOk P w K mg base (L2.CX P w) 3 f fd ["row"] (spR T K 1 (R_cycles cRow)) := by
  obtain ⟨f_r, fd_r, o_check_row, m_check_row, k_check_row, b_check_row⟩ := c_check_row.ex
  obtain ⟨f_r2, fd_r2, o_rounds, m_rounds, k_rounds, b_rounds⟩ := c_rounds.ex
  refine F.okX sc_cycles spR_len (fun cdv A outer s H vs Q E hr h => ⟨_, (pss_cons (ps_expr (pe_call o_check_row (hr.mono (by decide)) (by rfl) m_check_row k_check_row b_check_row .nil (passes_call (takes_of (E := E) rfl rfl rfl rfl) (fun _ _ _ _ h => h)) (pa_cons (pv 0) pa_nil)))
      (pss_cons (ps_par (i := 1) (j := 2) (by rfl) sc_cycles.nd rfl rfl (by decide) rfl rfl (pa_cons (pe_callTy (r := rListOfX K) call_list_of (by rfl) B.list (by decide +kernel) (pa_cons (pe_call o_rounds (hr.mono (by decide)) (by rfl) m_rounds k_rounds b_rounds .nil (passes_call (takes_of (E := E) rfl rfl rfl rfl) (fun _ _ _ _ h => h)) (pa_cons (pe_callB (r := rLenX K) call_len (by rfl) B.len PySem.boot_len (pa_cons (pv 0) pa_nil)) pa_nil)) pa_nil)) (pa_cons (pe_lst pa_nil) pa_nil)) (by rfl))
      (pss_cons (ps_while (passes_of rfl) (pt_cmpR (r := rNeD K) (op_neD hr.units) (pv 1) (pe_lst pa_nil) (nomark _)) (pss_cons (ps_par (i := 3) (j := 4) (by rfl) sc_cycles.nd rfl rfl (by decide) rfl rfl (pa_cons (pe_ix (r := rIxL K) ix_list (pv 1) pe_int (fun _ _ => rfl)) (pa_cons (pe_lst pa_nil) pa_nil)) (by rfl))
      (pss_cons (ps_while (passes_of rfl) (pt_cmpR (r := rIn K false) op_in_seq (pv 3) (pv 1) (by rfl)) (pss_cons (ps_expr (pe_bm PySem.F.plainAttrs_list PySem.F.slot_list_remove PySem.F.type_list_remove mt_remove (pv 1) (pa_cons (pv 3) pa_nil)))
      (pss_cons (ps_expr (pe_bm PySem.F.plainAttrs_list PySem.F.slot_list_append PySem.F.type_list_append mt_append (pv 4) (pa_cons (pv 3) pa_nil)))
      (pss_one (ps_set (i := 3) sc_cycles.nd rfl (by first | exact Or.inl rfl | exact Or.inr rfl) (pe_ix (r := rIxT K) ix_tup (pv 0) (pe_op op_sub (pv 3) pe_int) (fun _ _ => rfl)))))))
      (pss_one (ps_expr (pe_bm PySem.F.plainAttrs_list PySem.F.slot_list_append PySem.F.type_list_append mt_append (pv 2) (pa_cons (pe_tupX (by rfl) B.tuple (pv 4)) pa_nil)))))))
      (pss_one (ps_ret (pe_tupX (by rfl) B.tuple (pv 2))))))), ?_⟩)
  refine keeps h (by decide) ?_
  rintro ds r o hl ⟨l, hn, rfl, rfl, rfl⟩
  by_cases hg : good l
  · refine sq_drop (chk (f0 := f_r) hn hg (ev_var rfl)) ?_
    have h12 := hg.2.1
    have e0 : Ev T K (tCall (spR T K 1 (R_rounds cRow)) [] E (tCons (tCB _ (tCons (tVar 0) tNil)) tNil)) [some (rowD l), none, none, none, none] [] (rowD (rng l.length)) [] :=
      ev_callC (n := 1) ⟨l.length, hn, by rw [List.length_map], rfl, (oc_y ⟨hg.1, hg.2.1⟩).symm⟩ (ea_cons (ev_cb (ea_cons (ev_var rfl) ea_nil) (ca_len vs_t)) ea_nil) rfl
    refine sq_parNN (en_listOf (ea_cons e0 ea_nil) vs_t) (fun p => en_lst ea_nil (by simp)) fun p q => ?_
    refine st_seq (M := fun g r => ∃ x y, g = [some (rowD l), some (.ref p), some (.ref q), x, y] ∧ r = [rl q ((cyc l).map rowD), rl p []])
      (st_while (fun m g r => ∃ x y left found, g = [some (rowD l), some (.ref p), some (.ref q), x, y] ∧ r = [rl q (found.map rowD), rl p (left.map D.int)] ∧ m = left.length ∧ (∀ b : Int, b ∈ left → 1 ≤ b ∧ b ≤ (l.length : Int)) ∧ left.length + found.length ≤ 12 ∧ ∀ n, left.length ≤ n → cyO l n left found = cyc l) l.length ⟨none, none, rng l.length, [], rfl, rfl, (rng_len _).symm, fun b hb => rng_mem.mp hb, by rw [rng_len]; simpa using h12, fun n hn => ?_⟩ ?_) ?_
    · unfold cyc
      rw [rng_len] at hn
      exact cyO_fuel _ _ _ _ (by rw [rng_len]; exact hn) (by rw [rng_len]; exact Nat.le_refl _)
    · rintro m g r ⟨x, y, left, found, rfl, rfl, rfl, hb, hlen, hcy⟩
      refine ⟨_, _, et_test (ev_op (ev_var rfl) (en_lst ea_nil (by simp)).ev (od_neD (vd_il 1 rfl) (vd_f (d := .lst ([].map D.int))) (sh_il _) (sh_il []))), fun hb1 => ?_, fun hb1 => ?_⟩
      · rw [eq_il] at hb1
        have hne : left ≠ [] := by simpa using hb1
        have hm := getD0_mem hne
        refine sq_parEN (ev_op (ev_var rfl) ev_int (od_ixLI (vl_o 1 rfl) (by omega) (by have := List.length_pos_iff.mpr hne; omega))) (en_lst ea_nil (by simp)) fun u => ?_
        refine st_seq (M := fun g r => ∃ y, g = [some (rowD l), some (.ref p), some (.ref q), y, some (.ref u)] ∧ r = [rl u ((cyI l left.length left [] (left.getD 0 0)).2.1.map D.int), rl q (found.map rowD), rl p ((cyI l left.length left [] (left.getD 0 0)).1.map D.int)])
          (st_while (fun m g r => ∃ lf rg here, g = [some (rowD l), some (.ref p), some (.ref q), some (.int here), some (.ref u)] ∧ r = [rl u (rg.map D.int), rl q (found.map rowD), rl p (lf.map D.int)] ∧ m = lf.length ∧ (∀ b : Int, b ∈ lf → 1 ≤ b ∧ b ≤ (l.length : Int)) ∧ rg.length + lf.length ≤ 12 ∧ cyI l lf.length lf rg here = cyI l left.length left [] (left.getD 0 0)) left.length ⟨left, [], left.getD 0 0, rfl, rfl, rfl, hb, by simp; omega, rfl⟩ ?_) ?_
        · rintro m g r ⟨lf, rg, here, rfl, rfl, rfl, hbl, hlen2, he⟩
          refine ⟨_, _, et_test (ev_op (ev_var rfl) (ev_var rfl) (od_inI (Or.inr (vl_o 2 rfl)))), fun hin => ?_, fun hin => ?_⟩
          · have hin : here ∈ lf := by simpa using hin
            have hh := hbl _ hin
            have el := List.length_erase_of_mem hin
            have hpos := List.length_pos_of_mem hin
            refine sq_drop (ev_remove 2 (ev_var rfl) rfl (ev_var rfl) rfl hin) (sq_drop (ev_append 0 (ev_var rfl) rfl (ev_var rfl) rfl (by simp; omega)) (st_set (ev_op (ev_var rfl) (ev_op (ev_var rfl) ev_int od_I0i) (od_ixRow (by omega) (by omega))) ?_))
            refine ⟨lf.length - 1, by omega, lf.erase here, rg ++ [here], stp l here, rfl, ?_, el.symm, fun b hb => hbl b (List.mem_of_mem_erase hb), by simp; omega, ?_⟩
            · rw [List.map_append]; rfl
            · rw [← he]
              obtain ⟨k, hk⟩ : ∃ k, lf.length = k + 1 := ⟨lf.length - 1, by omega⟩
              rw [hk, show (lf.erase here).length = k by omega]
              conv => rhs; unfold cyI
              rw [if_pos hin]
          · have hin : here ∉ lf := by simpa using hin
            rw [cyI_stop hin] at he
            rw [← he]
            exact ⟨_, rfl, rfl⟩
        · rintro g r ⟨y, rfl, rfl⟩
          have hI := cyI_len (row := l) left.length left [] (left.getD 0 0)
          have hlt := cyI_lt (row := l) (ring := []) hm
          refine st_nxD 0 (st_dropE (ev_append 1 (ev_var rfl) rfl (ev_tux (ev_tupX (ev_var rfl) (vl_o 0 rfl))) rfl (by simp; omega)) ?_)
          refine ⟨by simp, (cyI l left.length left [] (left.getD 0 0)).1.length, hlt, y, some (.ref u), (cyI l left.length left [] (left.getD 0 0)).1, found ++ [(cyI l left.length left [] (left.getD 0 0)).2.1], rfl, ?_, rfl, fun b hb' => hb b (hI.2 b hb'), by rw [List.length_append]; simp only [List.length_cons, List.length_nil]; omega, fun n hn => ?_⟩
          · rw [List.map_append]; rfl
          · obtain ⟨k, hk⟩ : ∃ k, left.length = k + 1 := ⟨left.length - 1, by omega⟩
            have := hcy (k + 1) (by omega)
            conv at this => lhs; unfold cyO
            rw [if_neg hne] at this
            rw [← this]
            exact cyO_fuel _ _ _ _ hn (by omega)
      · rw [eq_il] at hb1
        have hne : left = [] := by simpa using hb1
        subst hne
        have := hcy 0 (Nat.le_refl _)
        unfold cyO at this
        rw [← this]
        exact ⟨x, y, rfl, rfl⟩
    · rintro g r ⟨x, y, rfl, rfl⟩
      refine st_retA (ev_tux (ev_tupX (ev_var rfl) (vl_o 0 rfl))) ?_
      rw [oc_y hg]
      exact ⟨rfl, rfl⟩
  · refine sq_exE (chkX (f0 := f_r) hn hg (ev_var rfl)) ?_
    rw [oc_n hg]
    exact ⟨rfl, rfl⟩
end
end Bs
namespace Bs
open PySem PySem.Spec PyProof.Rows L2 DL GX GxR






/-! ### plain -/
def lcmS (f : Nat) (ring : List Int) : Nat := f / Nat.gcd f ring.length * ring.length
def ordV (l : List Int) : Nat := (cyc l).foldl lcmS 1
def R_order_of (C : Addr) : Rel := fun ds r o => ∃ l : List Int, l.length ≤ 1000 ∧ ds = [rowD l] ∧ r = [] ∧ o = oc (good l) (.int (ordV l : Nat)) C
theorem cyI_len2 {row : List Int} : ∀ (n : Nat) (left ring : List Int) (here : Int), (cyI row n left ring here).1.length + (cyI row n left ring here).2.1.length = left.length + ring.length ∧ ring.length ≤ (cyI row n left ring here).2.1.length
  | 0, left, ring, here => ⟨rfl, Nat.le_refl _⟩
  | n + 1, left, ring, here => by
    unfold cyI
    split
    · rename_i h
      have h1 := cyI_len2 (row := row) n (left.erase here) (ring ++ [here]) (stp row here)
      have := List.length_erase_of_mem h
      have := List.length_pos_of_mem h
      rw [List.length_append] at h1
      simp only [List.length_cons, List.length_nil] at h1
      omega
    · exact ⟨rfl, Nat.le_refl _⟩
theorem cyO_len {row : List Int} : ∀ (n : Nat) (left : List Int) (found : List (List Int)), left.length ≤ 12 → (∀ x ∈ found, x ≠ [] ∧ x.length ≤ 12) → ∀ x ∈ cyO row n left found, x ≠ [] ∧ x.length ≤ 12
  | 0, left, found, _, h => h
  | n + 1, left, found, hl, h => by
    unfold cyO
    split
    · exact h
    · rename_i hne
      have h1 := cyI_len2 (row := row) left.length left [] (left.getD 0 0)
      have h2 := cyI_lt (row := row) (ring := []) (getD0_mem hne)
      refine cyO_len n _ _ (by omega) fun x hx => ?_
      rcases List.mem_append.mp hx with z | z
      · exact h x z
      · have e : x = (cyI row left.length left [] (left.getD 0 0)).2.1 := by simpa using z
        subst e
        simp only [List.length_nil] at h1
        exact ⟨fun q => by rw [q] at h1; have := h1.1; simp only [List.length_nil] at this; omega, by omega⟩
theorem cyc_len {l : List Int} (hg : good l) : ∀ x ∈ cyc l, x ≠ [] ∧ x.length ≤ 12 := cyO_len _ _ _ (by rw [rng_len]; exact hg.2.1) (fun x hx => by cases hx)
def runLen (l : List Int) (place : Nat) (step : Int) : Nat → Nat → Nat
  | 0, long => long
  | n + 1, long => if place + long < l.length ∧ l.getD (place + long) 0 - l.getD (place + long - 1) 0 = step then runLen l place step n (long + 1) else long
def rstep (l : List Int) (place : Nat) : Int := l.getD (place + 1) 0 - l.getD place 0
def rlong (l : List Int) (place : Nat) : Nat := runLen l place (rstep l place) l.length 1
abbrev Trip := Int × Int × Int
def runsF (l : List Int) (least : Int) : Nat → Nat → List Trip
  | 0, _ => []
  | n + 1, place => if place + 1 < l.length then
      (if rstep l place = 1 ∨ rstep l place = -1 then (if least ≤ (rlong l place : Int) then [((place : Int), (rlong l place : Int), rstep l place)] else []) ++ runsF l least n (place + rlong l place - 1)
       else runsF l least n (place + 1)) else []
def runsV (l : List Int) (least : Int) : List Trip := runsF l least l.length 0
abbrev tripD (t : Trip) : D := .tup [.int t.1, .int t.2.1, .int t.2.2]
def R_runs (C : Addr) : Rel := fun ds r o => ∃ (l : List Int) (least : Int), l.length ≤ 1000 ∧ ds = [rowD l, .int least] ∧ r = [] ∧ o = oc (good l ∧ 2 ≤ least) (.tup ((runsV l least).map tripD)) C
theorem runLen_fuel {l : List Int} {place : Nat} {step : Int} : ∀ (n m long : Nat), l.length ≤ place + long + n → l.length ≤ place + long + m → runLen l place step n long = runLen l place step m long
  | 0, 0, long, _, _ => rfl
  | 0, m + 1, long, h1, _ => by
    unfold runLen
    rw [if_neg (by omega)]
  | n + 1, 0, long, _, h2 => by
    unfold runLen
    rw [if_neg (by omega)]
  | n + 1, m + 1, long, h1, h2 => by
    unfold runLen
    split
    · exact runLen_fuel n m _ (by omega) (by omega)
    · rfl
theorem runLen_le {l : List Int} {place : Nat} {step : Int} : ∀ (n long : Nat), long ≤ runLen l place step n long ∧ (place + long ≤ l.length → place + runLen l place step n long ≤ l.length)
  | 0, long => ⟨Nat.le_refl _, fun h => h⟩
  | n + 1, long => by
    unfold runLen
    split
    · obtain ⟨h1, h2⟩ := runLen_le (l := l) (place := place) (step := step) n (long + 1)
      exact ⟨by omega, fun _ => h2 (by omega)⟩
    · exact ⟨Nat.le_refl _, fun h => h⟩
theorem rlong_ge {l : List Int} {place : Nat} (h : place + 1 < l.length) : 2 ≤ rlong l place ∧ place + rlong l place ≤ l.length := by
  unfold rlong
  obtain ⟨k, hk⟩ : ∃ k, l.length = k + 1 := ⟨l.length - 1, by omega⟩
  rw [hk]
  unfold runLen
  rw [if_pos ⟨h, by unfold rstep; rfl⟩]
  have := runLen_le (l := l) (place := place) (step := rstep l place) k 2
  show 2 ≤ runLen l place (rstep l place) k 2 ∧ place + runLen l place (rstep l place) k 2 ≤ k + 1
  exact ⟨this.1, by have := this.2 (by omega); omega⟩
theorem runsF_fuel {l : List Int} {least : Int} : ∀ (n m place : Nat), l.length ≤ place + n → l.length ≤ place + m → runsF l least n place = runsF l least m place
  | 0, 0, _, _, _ => rfl
  | 0, m + 1, place, h1, _ => by
    unfold runsF
    rw [if_neg (by omega)]
  | n + 1, 0, place, _, h2 => by
    unfold runsF
    rw [if_neg (by omega)]
  | n + 1, m + 1, place, h1, h2 => by
    unfold runsF
    split
    · rename_i h
      have := rlong_ge h
      rw [runsF_fuel n m (place + rlong l place - 1) (by omega) (by omega), runsF_fuel n m (place + 1) (by omega) (by omega)]
    · rfl
section
variable {P : Program} {w : World} {K : PySem.W.Frag} {mg : Str → Option Value} {base : Heap} {T : Tb} {cRow : Addr} {f c Pt : Addr} {fd : FuncData} {uS : Value}
theorem sc_order_of : FnScope ["row", "found", "ring", "one", "other"] ["row"] (defScope s_order_of) := ⟨rfl, rfl, rfl, by decide +kernel, rfl, by decide +kernel, by decide +kernel⟩
theorem ok_order_of (F : Fun K "order_of" "order_of" s_order_of f fd) (B : Bi mg) (c_cycles : Cal P w K mg base T "cycles" 3 ["row"] (R_cycles cRow)) : FnOk P w K mg base (L2.CX P w) 4 f fd ["row"] (spR T K 1 (R_order_of cRow)) := by
  obtain ⟨f_r, fd_r, o_cycles, m_cycles, k_cycles, b_cycles⟩ := c_cycles.ex
  refine F.okX sc_order_of spR_len (fun cdv A outer s H vs Q E hr h => ⟨_, (pss_cons (ps_set (i := 1) sc_order_of.nd rfl (by first | exact Or.inl rfl | exact Or.inr rfl) pe_int)
      (pss_cons (ps_for (passes_of rfl) rfl (pi_tup (pe_call o_cycles (hr.mono (by decide)) (by rfl) m_cycles k_cycles b_cycles .nil (passes_call (takes_of (E := E) rfl rfl rfl rfl) (fun _ _ _ _ h => h)) (pa_cons (pv 0) pa_nil))) (pg_name (i := 2) sc_order_of.nd rfl (by first | exact Or.inl rfl | exact Or.inr rfl)) (pss_cons (ps_par (i := 3) (j := 4) (by rfl) sc_order_of.nd rfl rfl (by decide) rfl rfl (pa_cons (pv 1) (pa_cons (pe_callB (r := rLenX K) call_len (by rfl) B.len PySem.boot_len (pa_cons (pv 2) pa_nil)) pa_nil)) (by rfl))
      (pss_cons (ps_while (passes_of rfl) (pt_cmpR op_ne (pv 4) pe_int (nomark _)) (pss_one (ps_par (i := 3) (j := 4) (by rfl) sc_order_of.nd rfl rfl (by decide) rfl rfl (pa_cons (pv 4) (pa_cons (pe_op op_mod (pv 3) (pv 4)) pa_nil)) (by rfl))))
      (pss_one (ps_set (i := 1) sc_order_of.nd rfl (by first | exact Or.inl rfl | exact Or.inr rfl) (pe_op op_mul (pe_op op_fdiv (pv 1) (pv 3)) (pe_callB (r := rLenX K) call_len (by rfl) B.len PySem.boot_len (pa_cons (pv 2) pa_nil))))))))
      (pss_one (ps_ret (pv 1))))), ?_⟩)
  refine keeps h (by decide) ?_
  rintro ds r o hl ⟨l, hn, rfl, rfl, rfl⟩
  refine sq_set ev_int ?_
  by_cases hg : good l
  · have e0 : ∀ g, g[0]? = some (some (rowD l)) → Ev T K (tCall (spR T K 1 (R_cycles cRow)) [] E (tCons (tVar 0) tNil)) g [] (.tup ((cyc l).map rowD)) [] := fun g h =>
      ev_callC (n := 1) ⟨l, hn, rfl, rfl, (oc_y hg).symm⟩ (ea_cons (ev_var h) ea_nil) rfl
    refine st_seq (M := fun g r => ∃ x y z, g = [some (rowD l), some (.int (ordV l : Nat)), x, y, z] ∧ r = []) (st_for (ei_tup (e0 _ rfl)) (fun i g r => ∃ x y z, g = [some (rowD l), some (.int ((((cyc l).take i).foldl lcmS 1 : Nat) : Int)), x, y, z] ∧ r = []) ⟨_, _, _, rfl, rfl⟩ ?_ ?_) ?_
    · rintro i d g r hd ⟨x, y, z, rfl, rfl⟩
      rw [List.getElem?_map] at hd
      cases hq : (cyc l)[i]? with
      | none => rw [hq] at hd; cases hd
      | some ring =>
        rw [hq] at hd
        cases hd
        have hr0 := cyc_len hg ring (List.mem_of_getElem? hq)
        have hpos := List.length_pos_iff.mpr hr0.1
        refine ⟨_, _, eg_name, ?_⟩
        generalize hF : ((cyc l).take i).foldl lcmS 1 = F0
        refine sq_par (ea_cons (ev_var rfl) (ea_cons (ev_cb (ea_cons (ev_var rfl) ea_nil) (ca_len vs_t)) ea_nil)) ?_
        refine st_seq (M := fun g r => ∃ z, g = [some (rowD l), some (.int (F0 : Nat)), some (rowD ring), some (.int (Nat.gcd F0 ring.length : Nat)), z] ∧ r = [])
          (st_while (fun m g r => ∃ a : Nat, g = [some (rowD l), some (.int (F0 : Nat)), some (rowD ring), some (.int (a : Nat)), some (.int (m : Nat))] ∧ r = [] ∧ Nat.gcd a m = Nat.gcd F0 ring.length) ring.length ⟨F0, by rw [List.length_map]; rfl, rfl, rfl⟩ ?_) ?_
        · rintro m g r ⟨a, rfl, rfl, hgcd⟩
          refine ⟨_, _, et_test (ev_op (ev_var rfl) ev_int od_neI), fun hb => ?_, fun hb => ?_⟩
          · have hm : 0 < m := by simp at hb; omega
            refine st_par (ea_cons (ev_var rfl) (ea_cons (ev_op (ev_var rfl) (ev_var rfl) (od_I (by omega))) ea_nil)) ?_
            refine ⟨a % m, Nat.mod_lt _ hm, m, rfl, rfl, ?_⟩
            rw [← hgcd, Nat.gcd_comm a m, Nat.gcd_rec m a, Nat.gcd_comm]
          · have hm : m = 0 := by simp at hb; omega
            subst hm
            rw [Nat.gcd_zero_right] at hgcd
            exact ⟨_, by rw [hgcd], rfl⟩
        · rintro g r ⟨z, rfl, rfl⟩
          have hgp : 0 < Nat.gcd F0 ring.length := Nat.gcd_pos_of_pos_right _ hpos
          have hgl : Nat.gcd F0 ring.length ≤ 12 := Nat.le_trans (Nat.gcd_le_right _ hpos) hr0.2
          refine st_set (ev_op (ev_op (ev_var rfl) (ev_var rfl) (od_I ⟨by omega, by omega⟩)) (ev_cb (ea_cons (ev_var rfl) ea_nil) (ca_len vs_t)) (od_I (Or.inr ⟨by simp; omega, by simp; omega⟩))) ?_
          have e : ((F0 : Nat) : Int) / ((Nat.gcd F0 ring.length : Nat) : Int) * ((ring.map D.int).length : Int) = ((((cyc l).take (i + 1)).foldl lcmS 1 : Nat) : Int) := by
            rw [List.take_succ, hq, List.foldl_append, hF]
            simp [lcmS]
          rw [e]
          exact ⟨_, _, _, rfl, rfl⟩
    · rintro g r ⟨x, y, z, rfl, rfl⟩
      rw [List.length_map, List.take_length]
      exact ⟨x, y, z, rfl, rfl⟩
    · rintro g r ⟨x, y, z, rfl, rfl⟩
      refine st_ret (ev_var rfl) ?_
      rw [oc_y hg]
      exact ⟨rfl, rfl⟩
  · refine sq_exFor (ex_callC (n := 1) ⟨l, hn, rfl, rfl, (oc_n hg).symm⟩ (ea_cons (ev_var rfl) ea_nil) rfl) ?_
    rw [oc_n hg]
    exact ⟨rfl, rfl⟩
theorem trip_sz (a b c : Int) : ([D.int a, .int b, .int c] : List D).length ≤ 100000 := by simp
theorem runs_bd {l : List Int} {least : Int} : ∀ (n place : Nat), place + (runsF l least n place).length ≤ max place l.length
  | 0, place => by simp [runsF]; omega
  | n + 1, place => by
    unfold runsF
    split
    · rename_i h
      have hr := rlong_ge h
      split
      · have := runs_bd (l := l) (least := least) n (place + rlong l place - 1)
        rw [List.length_append]
        split
        · simp only [List.length_cons, List.length_nil]; omega
        · simp only [List.length_nil]; omega
      · have := runs_bd (l := l) (least := least) n (place + 1)
        omega
    · simp; omega
theorem sc_runs : FnScope ["row", "least", "found", "place", "step", "long"] ["row", "least"] (defScope s_runs) := ⟨rfl, rfl, rfl, by decide +kernel, rfl, by decide +kernel, by decide +kernel⟩
theorem ok_runs (F : Fun K "runs" "runs" s_runs f fd) (B : Bi mg) (e_RowError : Er K mg "RowError" cRow) (c_check_row : Cal P w K mg base T "check_row" 2 ["row"] (R_check_row cRow)) : FnOk P w K mg base (L2.CX P w) 3 f fd ["row", "least"] (spR T K 2 (R_runs cRow)) := by
  obtain ⟨f_r, fd_r, o_check_row, m_check_row, k_check_row, b_check_row⟩ := c_check_row.ex
  refine F.okX sc_runs spR_len (fun cdv A outer s H vs Q E hr h => ⟨_, (pss_cons (ps_expr (pe_call o_check_row (hr.mono (by decide)) (by rfl) m_check_row k_check_row b_check_row .nil (passes_call (takes_of (E := E) rfl rfl rfl rfl) (fun _ _ _ _ h => h)) (pa_cons (pv 0) pa_nil)))
      (pss_cons (ps_if (pt_cmpR op_lt (pv 1) pe_int (nomark _)) (pss_one (ps_raise rfl (takes_of (E := E) rfl rfl rfl rfl) (pmk_own PySem.F.excBase_ValueError e_RowError.x e_RowError.g e_RowError.k (raises_own e_RowError.b e_RowError.t) (by rfl)))) pss_nil)
      (pss_cons (ps_par (i := 2) (j := 3) (by rfl) sc_runs.nd rfl rfl (by decide) rfl rfl (pa_cons (pe_lst pa_nil) (pa_cons pe_int pa_nil)) (by rfl))
      (pss_cons (ps_while (passes_of rfl) (pt_cmpR op_lt (pe_op op_add (pv 3) pe_int) (pe_callB (r := rLenX K) call_len (by rfl) B.len PySem.boot_len (pa_cons (pv 0) pa_nil)) (nomark _)) (pss_cons (ps_par (i := 4) (j := 5) (by rfl) sc_runs.nd rfl rfl (by decide) rfl rfl (pa_cons (pe_op op_sub (pe_ix (r := rIxT K) ix_tup (pv 0) (pe_op op_add (pv 3) pe_int) (fun _ _ => rfl)) (pe_ix (r := rIxT K) ix_tup (pv 0) (pv 3) (fun _ _ => rfl))) (pa_cons pe_int pa_nil)) (by rfl))
      (pss_one (ps_if (pt_cmpR op_eq (pe_callB call_abs (by rfl) B.abs (by decide +kernel) (pa_cons (pv 4) pa_nil)) pe_int (nomark _)) (pss_cons (ps_while (passes_of rfl) (PW.pt (pw_and (pt_cmpR op_lt (pe_op op_add (pv 3) (pv 5)) (pe_callB (r := rLenX K) call_len (by rfl) B.len PySem.boot_len (pa_cons (pv 0) pa_nil)) (nomark _)) (pw_and1 (pt_cmpR op_eq (pe_op op_sub (pe_ix (r := rIxT K) ix_tup (pv 0) (pe_op op_add (pv 3) (pv 5)) (fun _ _ => rfl)) (pe_ix (r := rIxT K) ix_tup (pv 0) (pe_op op_sub (pe_op op_add (pv 3) (pv 5)) pe_int) (fun _ _ => rfl))) (pv 4) (nomark _))))) (pss_one (ps_aug (i := 5) sc_runs.nd rfl (by first | exact Or.inl rfl | exact Or.inr rfl) pe_int ip_add)))
      (pss_cons (ps_if (pt_cmpR op_ge (pv 5) (pv 1) (nomark _)) (pss_one (ps_expr (pe_bm PySem.F.plainAttrs_list PySem.F.slot_list_append PySem.F.type_list_append mt_append (pv 2) (pa_cons (pe_tup (pa_cons (pv 3) (pa_cons (pv 5) (pa_cons (pv 4) pa_nil)))) pa_nil)))) pss_nil)
      (pss_one (ps_aug (i := 3) sc_runs.nd rfl (by first | exact Or.inl rfl | exact Or.inr rfl) (pe_op op_sub (pv 5) pe_int) ip_add)))) (pss_one (ps_aug (i := 3) sc_runs.nd rfl (by first | exact Or.inl rfl | exact Or.inr rfl) pe_int ip_add))))))
      (pss_one (ps_ret (pe_tupX (by rfl) B.tuple (pv 2)))))))), ?_⟩)
  refine keeps h (by decide) ?_
  rintro ds r o hl ⟨l, least, hn, rfl, rfl, rfl⟩
  by_cases hg : good l
  · refine sq_drop (chk (f0 := f_r) hn hg (ev_var rfl)) ?_
    have h12 := hg.2.1
    refine sq_if (et_test (ev_op (ev_var rfl) ev_int od_I0b)) (fun hb => ?_) (fun hb => ?_)
    · refine sq_raise ?_
      rw [oc_n fun q => by simp at hb; omega]
      exact ⟨rfl, rfl⟩
    · have h2 : 2 ≤ least := by simp at hb; omega
      refine sq_next (sq_parNE (en_lst ea_nil (by simp)) (fun p => ev_int) fun p => ?_)
      have hL : ((l.map D.int).length : Int) = (l.length : Int) := by rw [List.length_map]
      refine st_seq (M := fun g r => ∃ x y z, g = [some (rowD l), some (.int least), some (.ref p), x, y, z] ∧ r = [rl p ((runsV l least).map tripD)])
        (st_while (fun m g r => ∃ (place : Nat) (found : List Trip) (y z : Option D), g = [some (rowD l), some (.int least), some (.ref p), some (.int (place : Nat)), y, z] ∧ r = [rl p (found.map tripD)] ∧ m = l.length - place ∧ found.length ≤ place ∧ ∀ n, l.length ≤ place + n → found ++ runsF l least n place = runsV l least) l.length ⟨0, [], _, _, rfl, rfl, rfl, by simp, fun n hn => runsF_fuel _ _ _ hn (by omega)⟩ ?_) ?_
      · rintro m g r ⟨place, found, y, z, rfl, rfl, rfl, hf, hrun⟩
        refine ⟨_, _, et_test (ev_op (ev_op (ev_var rfl) ev_int od_I0i) (ev_cb (ea_cons (ev_var rfl) ea_nil) (ca_len vs_t)) od_I0b), fun hb => ?_, fun hb => ?_⟩
        · have hp : place + 1 < l.length := by rw [hL] at hb; simp at hb; omega
          have hrl := rlong_ge hp
          have hun : ∀ n, l.length ≤ place + (n + 1) → runsF l least (n + 1) place = (if rstep l place = 1 ∨ rstep l place = -1 then (if least ≤ (rlong l place : Int) then [((place : Int), (rlong l place : Int), rstep l place)] else []) ++ runsF l least n (place + rlong l place - 1) else runsF l least n (place + 1)) := fun n _ => by
            conv => lhs; unfold runsF
            rw [if_pos hp]
          have hx1 : ((place : Int) + 1).toNat = place + 1 := by omega
          have hx2 : ((place : Int)).toNat = place := by omega
          have hst : l.getD ((place : Int) + 1).toNat 0 - l.getD ((place : Int)).toNat 0 = rstep l place := by rw [hx1, hx2]; rfl
          refine sq_par (ea_cons (ev_op (ev_op (ev_var rfl) (ev_op (ev_var rfl) ev_int od_I0i) (od_ixRow (by omega) (by omega))) (ev_op (ev_var rfl) (ev_var rfl) (od_ixRow (by omega) (by omega))) od_I0i) (ea_cons ev_int ea_nil)) ?_
          rw [hst]
          refine st_if (et_test (ev_op (ev_cb (ea_cons (ev_var rfl) ea_nil) ca_abs) ev_int od_eqI)) (fun hb2 => ?_) (fun hb2 => ?_)
          · have hs : rstep l place = 1 ∨ rstep l place = -1 := by simp at hb2; split at hb2 <;> omega
            refine st_seq (M := fun g r => g = [some (rowD l), some (.int least), some (.ref p), some (.int (place : Nat)), some (.int (rstep l place)), some (.int (rlong l place : Nat))] ∧ r = [rl p (found.map tripD)])
              (st_while (fun m g r => ∃ long : Nat, g = [some (rowD l), some (.int least), some (.ref p), some (.int (place : Nat)), some (.int (rstep l place)), some (.int (long : Nat))] ∧ r = [rl p (found.map tripD)] ∧ m = l.length - long ∧ 1 ≤ long ∧ place + long ≤ l.length ∧ ∀ n, l.length ≤ place + long + n → runLen l place (rstep l place) n long = rlong l place) (l.length - 1) ⟨1, rfl, rfl, rfl, Nat.le_refl _, by omega, fun n hn => runLen_fuel _ _ _ hn (by omega)⟩ ?_) ?_
            · rintro m g r ⟨long, rfl, rfl, rfl, hl1, hl2, hrl2⟩
              by_cases hlt : place + long < l.length
              · have hy1 : ((place : Int) + (long : Int)).toNat = place + long := by omega
                have hy2 : ((place : Int) + (long : Int) - 1).toNat = place + long - 1 := by omega
                refine ⟨_, _, et_and (et_test (ev_op (ev_op (ev_var rfl) (ev_var rfl) od_I0i) (ev_cb (ea_cons (ev_var rfl) ea_nil) (ca_len vs_t)) od_I0b)) (fun _ => et_test (ev_op (ev_op (ev_op (ev_var rfl) (ev_op (ev_var rfl) (ev_var rfl) od_I0i) (od_ixRow (by omega) (by omega))) (ev_op (ev_var rfl) (ev_op (ev_op (ev_var rfl) (ev_var rfl) od_I0i) ev_int od_I0i) (od_ixRow (by omega) (by omega))) od_I0i) (ev_var rfl) od_eqI)), fun hb3 => ?_, fun hb3 => ?_⟩
                · rw [hy1, hy2] at hb3
                  have he : l.getD (place + long) 0 - l.getD (place + long - 1) 0 = rstep l place := by
                    simp only [Bool.and_eq_true, decide_eq_true_eq] at hb3
                    exact hb3.2
                  refine st_aug rfl ev_int ?_
                  have e : (long : Int) + 1 = ((long + 1 : Nat) : Int) := by omega
                  rw [e]
                  refine ⟨l.length - (long + 1), by omega, long + 1, rfl, rfl, rfl, by omega, by omega, fun n hn => ?_⟩
                  · rw [← hrl2 (n + 1) (by omega)]
                    conv => rhs; unfold runLen
                    rw [if_pos ⟨hlt, he⟩]
                · rw [hy1, hy2, hL] at hb3
                  have he : ¬ (l.getD (place + long) 0 - l.getD (place + long - 1) 0 = rstep l place) := by
                    simp only [Bool.and_eq_false_iff, decide_eq_false_iff_not] at hb3
                    rcases hb3 with q | q
                    · omega
                    · exact q
                  have := hrl2 (l.length - (place + long) + 1) (by omega)
                  unfold runLen at this
                  rw [if_neg fun q => he q.2] at this
                  rw [← this]
                  exact ⟨rfl, rfl⟩
              · refine ⟨_, _, et_and0 (et_of_eq (et_test (ev_op (ev_op (ev_var rfl) (ev_var rfl) od_I0i) (ev_cb (ea_cons (ev_var rfl) ea_nil) (ca_len vs_t)) od_I0b)) (by rw [hL]; simp; omega)), fun hb3 => (by cases hb3), fun hb3 => ?_⟩
                have := hrl2 0 (by omega)
                unfold runLen at this
                rw [← this]
                exact ⟨rfl, rfl⟩
            · rintro g r ⟨rfl, rfl⟩
              refine st_seq (M := fun g r => g = [some (rowD l), some (.int least), some (.ref p), some (.int (place : Nat)), some (.int (rstep l place)), some (.int (rlong l place : Nat))] ∧ r = [rl p ((found ++ (if least ≤ (rlong l place : Int) then [((place : Int), (rlong l place : Int), rstep l place)] else [])).map tripD)])
                (st_if (et_test (ev_op (ev_var rfl) (ev_var rfl) od_I0b)) (fun hb3 => ?_) (fun hb3 => ?_)) ?_
              · refine st_dropE (ev_append 0 (ev_var rfl) rfl (ev_tup (ea_cons (ev_var rfl) (ea_cons (ev_var rfl) (ea_cons (ev_var rfl) ea_nil))) (trip_sz _ _ _)) rfl (by simp; omega)) ⟨rfl, ?_⟩
                have h3 : least ≤ (rlong l place : Int) := by simp at hb3; omega
                rw [if_pos h3, List.map_append]
                rfl
              · have h3 : ¬ least ≤ (rlong l place : Int) := by simp at hb3; omega
                refine st_next ⟨rfl, ?_⟩
                rw [if_neg h3, List.append_nil]
              · rintro g r ⟨rfl, rfl⟩
                refine st_aug rfl (ev_op (ev_var rfl) ev_int od_I0i) ?_
                have e : (place : Int) + ((rlong l place : Int) - 1) = ((place + rlong l place - 1 : Nat) : Int) := by omega
                rw [e]
                refine ⟨l.length - (place + rlong l place - 1), by omega, place + rlong l place - 1, _, _, _, rfl, rfl, rfl, ?_, fun n hn => ?_⟩
                · rw [List.length_append]
                  split
                  · simp only [List.length_cons, List.length_nil]; omega
                  · simp only [List.length_nil]; omega
                · rw [← hrun (l.length + n + 1) (by omega), hun (l.length + n) (by omega), if_pos hs, List.append_assoc, runsF_fuel n (l.length + n) _ hn (by omega)]
          · have hs : ¬ (rstep l place = 1 ∨ rstep l place = -1) := by simp at hb2; split at hb2 <;> omega
            refine st_aug rfl ev_int ?_
            have e : (place : Int) + 1 = ((place + 1 : Nat) : Int) := by omega
            rw [e]
            refine ⟨l.length - (place + 1), by omega, place + 1, _, _, _, rfl, rfl, rfl, by omega, fun n hn => ?_⟩
            · rw [← hrun (n + 1) (by omega), hun n (by omega), if_neg hs]
        · have hp : ¬ place + 1 < l.length := by rw [hL] at hb; simp at hb; omega
          have := hrun (l.length) (by omega)
          have hz : runsF l least l.length place = [] := by
            obtain ⟨k, hk⟩ : ∃ k, l.length = k + 1 := ⟨l.length - 1, by have := hg.1; omega⟩
            rw [hk]
            unfold runsF
            rw [if_neg hp]
          rw [hz, List.append_nil] at this
          rw [← this]
          exact ⟨_, _, _, rfl, rfl⟩
      · rintro g r ⟨x, y, z, rfl, rfl⟩
        refine st_retA (ev_tux (ev_tupX (ev_var rfl) (vl_o 0 rfl))) ?_
        rw [oc_y ⟨hg, h2⟩]
        exact ⟨rfl, rfl⟩
  · refine sq_exE (chkX (f0 := f_r) hn hg (ev_var rfl)) ?_
    rw [oc_n fun q => hg q.1]
    exact ⟨rfl, rfl⟩
def rgI (i c : Int) (n : Nat) : List Int := (List.range n).map fun (m : Nat) => i + (m : Int) * c
def queens (n : Nat) : List Int := rgI 1 2 ((n + 1) / 2) ++ rgI 2 2 (n / 2)
def ptS (len : Nat) (acc : Int) (t : Trip) : Int := acc + t.2.1 * (if t.1 = 0 ∨ t.1 + t.2.1 = len then 2 else 1)
def ptsV (l : List Int) : Int := (runsV l 4).foldl (ptS l.length) 0
def musV (l : List Int) : Int := ptsV l + (if l = queens l.length then 10 else 0)
def R_music (C : Addr) : Rel := fun ds r o => ∃ l : List Int, l.length ≤ 1000 ∧ ds = [rowD l] ∧ r = [] ∧ o = oc (good l) (.int (musV l)) C
theorem rg3_int (i c : Int) (n : Nat) : rg3D i c n = (rgI i c n).map D.int := by
  unfold rg3D rgI
  rw [List.map_map]
  rfl
theorem rgc12 : ∀ n : Nat, n ≤ 12 → RgC 1 ((n : Int) + 1) 2 ((n + 1) / 2) ∧ RgC 2 ((n : Int) + 1) 2 (n / 2) := by
  unfold RgC
  decide +kernel
theorem runs_len {l : List Int} {least : Int} : (runsV l least).length ≤ l.length := by
  have := runs_bd (l := l) (least := least) l.length 0
  unfold runsV
  omega
theorem runs_mem {l : List Int} {least : Int} : ∀ (n place : Nat), ∀ t ∈ runsF l least n place, 0 ≤ t.1 ∧ 2 ≤ t.2.1 ∧ t.1 + t.2.1 ≤ l.length
  | 0, place => fun t h => by cases h
  | n + 1, place => fun t h => by
    unfold runsF at h
    split at h
    · rename_i hp
      have hr := rlong_ge hp
      split at h
      · rcases List.mem_append.mp h with z | z
        · split at z
          · have e : t = ((place : Int), (rlong l place : Int), rstep l place) := by simpa using z
            subst e
            exact ⟨by simp, by simp; omega, by simp; omega⟩
          · cases z
        · exact runs_mem n _ t z
      · exact runs_mem n _ t h
    · cases h
theorem sc_music : FnScope ["row", "found", "place", "long", "step", "queens"] ["row"] (defScope s_music) := ⟨rfl, rfl, rfl, by decide +kernel, rfl, by decide +kernel, by decide +kernel⟩
theorem ok_music (F : Fun K "music" "music" s_music f fd) (B : Bi mg) (c_runs : Cal P w K mg base T "runs" 3 ["row", "least"] (R_runs cRow)) : FnOk P w K mg base (L2.CX P w) 4 f fd ["row"] (spR T K 1 (R_music cRow)) := by
  obtain ⟨f_r, fd_r, o_runs, m_runs, k_runs, b_runs⟩ := c_runs.ex
  refine F.okX sc_music spR_len (fun cdv A outer s H vs Q E hr h => ⟨_, (pss_cons (ps_set (i := 1) sc_music.nd rfl (by first | exact Or.inl rfl | exact Or.inr rfl) pe_int)
      (pss_cons (ps_for (passes_of rfl) rfl (pi_tup (pe_call o_runs (hr.mono (by decide)) (by rfl) m_runs k_runs b_runs .nil (passes_call (takes_of (E := E) rfl rfl rfl rfl) (fun _ _ _ _ h => h)) (pa_cons (pv 0) (pa_cons pe_int pa_nil)))) (pg_tup (by rfl) (pgs_cons (pg_name (i := 2) sc_music.nd rfl (by first | exact Or.inl rfl | exact Or.inr rfl)) (pgs_cons (pg_name (i := 3) sc_music.nd rfl (by first | exact Or.inl rfl | exact Or.inr rfl)) (pgs_cons (pg_name (i := 4) sc_music.nd rfl (by first | exact Or.inl rfl | exact Or.inr rfl)) pgs_nil)))) (pss_one (ps_aug (i := 1) sc_music.nd rfl (by first | exact Or.inl rfl | exact Or.inr rfl) (pe_op op_mul (pv 3) (pe_ifExp (PW.pt (pw_or (pt_cmpR op_eq (pv 2) pe_int (nomark _)) (pw_or1 (pt_cmpR op_eq (pe_op op_add (pv 2) (pv 3)) (pe_callB (r := rLenX K) call_len (by rfl) B.len PySem.boot_len (pa_cons (pv 0) pa_nil)) (nomark _))))) pe_int pe_int)) ip_add)))
      (pss_cons (ps_set (i := 5) sc_music.nd rfl (by first | exact Or.inl rfl | exact Or.inr rfl) (pe_op op_catA (pe_tupRg3 rfl (by rfl) B.tuple (by rfl) B.range (pa_cons pe_int (pa_cons (pe_op op_add (pe_callB (r := rLenX K) call_len (by rfl) B.len PySem.boot_len (pa_cons (pv 0) pa_nil)) pe_int) (pa_cons pe_int pa_nil)))) (pe_tupRg3 rfl (by rfl) B.tuple (by rfl) B.range (pa_cons pe_int (pa_cons (pe_op op_add (pe_callB (r := rLenX K) call_len (by rfl) B.len PySem.boot_len (pa_cons (pv 0) pa_nil)) pe_int) (pa_cons pe_int pa_nil))))))
      (pss_one (ps_ret (pe_op op_add (pv 1) (pe_ifExp (pt_cmpR (r := rEqD K) (op_eqD hr.units) (pe_tupleOf (by rfl) B.tuple (pv 0)) (pv 5) (nomark _)) pe_int pe_int))))))), ?_⟩)
  refine keeps h (by decide) ?_
  rintro ds r o hl ⟨l, hn, rfl, rfl, rfl⟩
  refine sq_set ev_int ?_
  by_cases hg : good l
  · have h12 := hg.2.1
    have hL : ((l.map D.int).length : Int) = (l.length : Int) := by rw [List.length_map]
    have e0 : ∀ g, g[0]? = some (some (rowD l)) → Ev T K (tCall (spR T K 2 (R_runs cRow)) [] E (tCons (tVar 0) (tCons (tC (.int 4)) tNil))) g [] (.tup ((runsV l 4).map tripD)) [] := fun g h =>
      ev_callC (n := 2) ⟨l, 4, hn, rfl, rfl, (oc_y ⟨hg, by omega⟩).symm⟩ (ea_cons (ev_var h) (ea_cons ev_int ea_nil)) rfl
    refine st_seq (M := fun g r => ∃ x y z u, g = [some (rowD l), some (.int (ptsV l)), x, y, z, u] ∧ r = []) (st_for (ei_tup (e0 _ rfl)) (fun i g r => ∃ x y z u, g = [some (rowD l), some (.int (((runsV l 4).take i).foldl (ptS l.length) 0)), x, y, z, u] ∧ r = []) ⟨_, _, _, _, rfl, rfl⟩ ?_ ?_) ?_
    · rintro i d g r hd ⟨x, y, z, u, rfl, rfl⟩
      rw [List.getElem?_map] at hd
      cases hq : (runsV l 4)[i]? with
      | none => rw [hq] at hd; cases hd
      | some t =>
        rw [hq] at hd
        cases hd
        have hm := runs_mem l.length 0 t (List.mem_of_getElem? hq)
        refine ⟨_, _, eg_tup (egs_cons eg_name (egs_cons eg_name (egs_cons eg_name egs_nil))) rfl, ?_⟩
        generalize hF : ((runsV l 4).take i).foldl (ptS l.length) 0 = F0
        have e1 : Ev T K (tIf (tOr (tTest (tOp rEq (tVar 2) (tC (.int 0)))) (tTest (tOp rEq (tOp (rI0 fun i j => .int (i + j)) (tVar 2) (tVar 3)) (tCB (rLenX K) (tCons (tVar 0) tNil))))) (tC (.int 2)) (tC (.int 1))) [some (rowD l), some (.int F0), some (.int t.1), some (.int t.2.1), some (.int t.2.2), u] [] (.int (if t.1 = 0 ∨ t.1 + t.2.1 = l.length then 2 else 1)) [] := by
          refine ev_if (et_or (et_test (ev_op (ev_var rfl) ev_int od_eqI)) fun _ => et_test (ev_op (ev_op (ev_var rfl) (ev_var rfl) od_I0i) (ev_cb (ea_cons (ev_var rfl) ea_nil) (ca_len vs_t)) od_eqI)) (fun hb => ?_) (fun hb => ?_)
          · rw [hL] at hb
            have : t.1 = 0 ∨ t.1 + t.2.1 = l.length := by simpa using hb
            rw [if_pos this]
            exact ev_int
          · rw [hL] at hb
            have : ¬ (t.1 = 0 ∨ t.1 + t.2.1 = l.length) := by
              simp only [Bool.or_eq_false_iff, decide_eq_false_iff_not] at hb
              exact fun q => q.elim hb.1 hb.2
            rw [if_neg this]
            exact ev_int
        refine st_aug rfl (ev_op (ev_var rfl) e1 (od_I (Or.inl ⟨by omega, by omega⟩))) ?_
        have e : F0 + t.2.1 * (if t.1 = 0 ∨ t.1 + t.2.1 = l.length then 2 else 1) = ((runsV l 4).take (i + 1)).foldl (ptS l.length) 0 := by
          rw [List.take_succ, hq, List.foldl_append, hF]
          rfl
        rw [e]
        exact ⟨_, _, _, _, rfl, rfl⟩
    · rintro g r ⟨x, y, z, u, rfl, rfl⟩
      rw [List.length_map, List.take_length]
      exact ⟨x, y, z, u, rfl, rfl⟩
    · rintro g r ⟨x, y, z, u, rfl, rfl⟩
      have hr := rgc12 l.length h12
      rw [← hL] at hr
      have hq := ev_op (ev_tupRg3 (T := T) (K := K) (g := [some (rowD l), some (.int (ptsV l)), x, y, z, u]) (r := []) (ea_cons ev_int (ea_cons (ev_op (ev_cb (ea_cons (ev_var (i := 0) rfl) ea_nil) (ca_len vs_t)) ev_int od_I0i) (ea_cons ev_int ea_nil))) hr.1 (by omega)) (ev_tupRg3 (ea_cons ev_int (ea_cons (ev_op (ev_cb (ea_cons (ev_var (i := 0) rfl) ea_nil) (ca_len vs_t)) ev_int od_I0i) (ea_cons ev_int ea_nil))) hr.2 (by omega)) (od_catT (by simp [rg3D]; omega))
      have e9 : rg3D 1 2 ((l.length + 1) / 2) ++ rg3D 2 2 (l.length / 2) = (queens l.length).map D.int := by
        rw [rg3_int, rg3_int, ints_app]
        rfl
      rw [e9] at hq
      refine sq_set hq ?_
      refine st_ret (d := .int (musV l)) (ev_op (ev_var rfl) (ev_if (r2 := []) (d := .int (if l = queens l.length then 10 else 0)) (et_test (ev_op (ev_tupOf (ev_var rfl) vs_t) (ev_var rfl) (od_eqD vd_f vd_f (sh_row _) (sh_row _)))) (fun hb => ?_) (fun hb => ?_)) od_I0i) ?_
      · rw [eq_row] at hb
        rw [if_pos (by simpa using hb)]
        exact ev_int
      · rw [eq_row] at hb
        rw [if_neg (by simpa using hb)]
        exact ev_int
      · rw [oc_y hg]
        exact ⟨rfl, rfl⟩
  · refine sq_exFor (ex_callC (n := 2) ⟨l, 4, hn, rfl, rfl, (oc_n fun q => hg q.1).symm⟩ (ea_cons (ev_var rfl) (ea_cons ev_int ea_nil)) rfl) ?_
    rw [oc_n hg]
    exact ⟨rfl, rfl⟩
end
end Bs
namespace Bs
open PySem PySem.Spec PyProof.Rows L2 DL GX GxR





/-! ### the dice -/
abbrev S3 := Int × Int × Int
abbrev diceD (s : S3) : List D := [.int s.1, .int s.2.1, .int s.2.2]
def diceV (c : Int) : S3 := if -10 < c ∧ c < 10 then (if c < 0 then -c else c, 0, 2) else (c, 1 + c % 1009, if 10 ^ 18 ≤ c then 1 else 0)
def rollC (s : S3) : Prop := s.2.2 = 2 ∨ (s.2.2 = 1 ∧ 0 < s.1)
instance (s : S3) : Decidable (rollC s) := by unfold rollC; exact inferInstance
def rollA (s : S3) : Int := (s.1 * 48271 + s.2.1 * 69621 + 11) % 2147483647
def rollV (s : S3) (m : Int) : Int := if rollC s then s.1 % m else (rollA s / 7) % m
def rollD (s : S3) (m : Int) : S3 := if rollC s then (s.1 / m, s.2.1, s.2.2) else (rollA s, s.2.1 + 1, 0)
theorem rollV_lt {s : S3} {m : Int} (h : 0 < m) : 0 ≤ rollV s m ∧ rollV s m < m := by
  unfold rollV
  split
  · exact ⟨Int.emod_nonneg _ (by omega), Int.emod_lt_of_pos _ h⟩
  · exact ⟨Int.emod_nonneg _ (by omega), Int.emod_lt_of_pos _ h⟩
def R_dice : Rel := fun ds r o => ∃ c : Int, ds = [.int c] ∧ r = [] ∧ o = ⟨fun x y => ∃ p, x = .ref p ∧ y = [rl p (diceD (diceV c))], fun _ _ => False⟩
def R_roll : Rel := fun ds r o => ∃ (p : Addr) (s : S3) (m : Int), 1 ≤ m ∧ m ≤ 1000 ∧ ds = [.ref p, .int m] ∧ r = [rl p (diceD s)] ∧ o = .one (.int (rollV s m)) [rl p (diceD (rollD s m))]
def R_rounds2 : Rel := fun ds r o => ∃ ns : List Int, ds = [.lsq (ns.map D.int), .int 1] ∧ r = [] ∧ o = ⟨fun x y => ∃ p s, x = .lst [.ref p] ∧ y = [rl p (diceD s)], fun _ _ => False⟩
def rowS (s : S3) : Nat → List Int × S3
  | 0 => ([], s)
  | k + 1 => ((rowS s k).1.take (rollV (rowS s k).2 (k + 1)).toNat ++ [((k + 1 : Nat) : Int)] ++ (rowS s k).1.drop (rollV (rowS s k).2 (k + 1)).toNat, rollD (rowS s k).2 (k + 1))
theorem rowS_perm (s : S3) : ∀ k, (rowS s k).1.Perm (rng k)
  | 0 => List.Perm.refl _
  | k + 1 => by
    have ih := rowS_perm s k
    have e : rng (k + 1) = rng k ++ [((k + 1 : Nat) : Int)] := by
      unfold rng
      rw [List.range_succ, List.map_append]
      simp
      omega
    rw [e]
    show ((rowS s k).1.take _ ++ [((k + 1 : Nat) : Int)] ++ (rowS s k).1.drop _).Perm _
    generalize (rollV (rowS s k).2 (k + 1)).toNat = v
    have p1 : ((rowS s k).1.take v ++ [((k + 1 : Nat) : Int)] ++ (rowS s k).1.drop v).Perm (((k + 1 : Nat) : Int) :: ((rowS s k).1.take v ++ (rowS s k).1.drop v)) := by
      rw [List.append_assoc]
      exact List.perm_middle
    rw [List.take_append_drop] at p1
    exact (p1.trans (ih.cons _)).trans (List.perm_append_singleton _ _).symm
def R_row : Rel := fun ds r o => ∃ (p : Addr) (s : S3) (n : Nat), n ≤ 12 ∧ ds = [.ref p, .int n] ∧ r = [rl p (diceD s)] ∧ o = .one (.tux ((rowS s n).1.map D.int)) [rl p (diceD (rowS s n).2)]
section
variable {P : Program} {w : World} {K : PySem.W.Frag} {mg : Str → Option Value} {base : Heap} {T : Tb} {cRow : Addr} {f c Pt : Addr} {fd : FuncData} {uS : Value}
theorem sc__law_dice : FnScope ["cell"] ["cell"] (defScope s__law_dice) := ⟨rfl, rfl, rfl, by decide +kernel, rfl, by decide +kernel, by decide +kernel⟩
theorem ok_dice (F : Fun K "_law_dice" "_law_dice" s__law_dice f fd) (B : Bi mg) : FnOk P w K mg base (L2.CX P w) 1 f fd ["cell"] (spR T K 1 R_dice) := by
  refine F.okX sc__law_dice spR_len (fun cdv A outer s H vs Q E hr h => ⟨_, (pss_cons (ps_if (pt_chain op_lt op_lt (pe_op op_sub pe_int pe_int) (pv 0) pe_int) (pss_one (ps_ret (pe_lst (pa_cons (pe_callB call_abs (by rfl) B.abs (by decide +kernel) (pa_cons (pv 0) pa_nil)) (pa_cons pe_int (pa_cons pe_int pa_nil)))))) pss_nil)
      (pss_one (ps_ret (pe_lst (pa_cons (pv 0) (pa_cons (pe_op op_add pe_int (pe_op op_mod (pe_callTy call_int1 (by rfl) B.int (by decide +kernel) (pa_cons (pv 0) pa_nil)) pe_int)) (pa_cons (pe_callTy call_int1 (by rfl) B.int (by decide +kernel) (pa_cons (pe_cmpR op_ge (pv 0) (pe_op op_pow pe_int pe_int) (nomark _)) pa_nil)) pa_nil))))))), ?_⟩)
  refine keeps h (by decide) ?_
  rintro ds r o hl ⟨c, rfl, rfl, rfl⟩
  refine sq_if (et_test (ev_chain (ev_op ev_int ev_int od_I0i) (ev_var rfl) od_I0b (fun _ => ev_int) (fun _ => od_I0b))) (fun hb => ?_) (fun hb => ?_)
  · have hc : -10 < c ∧ c < 10 := by simp at hb; omega
    refine st_retN' (en_lst (ea_cons (ev_cb (ea_cons (ev_var rfl) ea_nil) ca_abs) (ea_cons ev_int (ea_cons ev_int ea_nil))) (by simp)) fun p => ⟨p, rfl, ?_⟩
    unfold diceV
    rw [if_pos hc]
  · have hc : ¬ (-10 < c ∧ c < 10) := by simp at hb; omega
    refine sq_next (st_retN' (en_lst (ea_cons (ev_var rfl) (ea_cons (ev_op ev_int (ev_op (ev_cb (ea_cons (ev_var rfl) ea_nil) ca_intI) ev_int (od_I (by omega))) od_I0i) (ea_cons (ev_cb (ea_cons (ev_op (ev_var rfl) (ev_op ev_int ev_int (od_I ⟨by decide, by decide, by decide⟩)) od_I0b) ea_nil) ca_intB) ea_nil))) (by simp)) fun p => ⟨p, rfl, ?_⟩)
    unfold diceV
    rw [if_neg hc]
    have e : (10 : Int) ^ Int.toNat 18 = 10 ^ 18 := rfl
    simp only [e, decide_eq_true_eq]
theorem sc__law_roll : FnScope ["dice", "many", "found"] ["dice", "many"] (defScope s__law_roll) := ⟨rfl, rfl, rfl, by decide +kernel, rfl, by decide +kernel, by decide +kernel⟩
theorem ok_roll (F : Fun K "_law_roll" "_law_roll" s__law_roll f fd) (hm : mg "_law_roll" = some (.ref f)) (hk : PySem.W.keepIn K (.ref f) = true) (hb : Binds K fd ["dice", "many"] []) (B : Bi mg) : FnOk P w K mg base (L2.CX P w) 1 f fd ["dice", "many"] (spR T K 2 R_roll) := by
  have o__law_roll : FnOk P w K mg base (L2.CX P w) 0 f fd ["dice", "many"] (fun _ _ _ _ => False) := ⟨fun _ _ _ _ h => h.elim, fun _ _ _ _ _ _ _ _ _ _ _ _ _ h => h.elim⟩
  have m__law_roll := hm
  have k__law_roll := hk
  have b__law_roll := hb
  refine F.okX sc__law_roll spR_len (fun cdv A outer s H vs Q E hr h => ⟨_, (pss_cons (ps_if (PW.pt (pw_or (pt_cmpR op_eq (pe_ix (r := rIxL K) ix_list (pv 0) pe_int (fun _ _ => rfl)) pe_int (nomark _)) (pw_or1 (PW.pt (pw_and (pt_cmpR op_eq (pe_ix (r := rIxL K) ix_list (pv 0) pe_int (fun _ _ => rfl)) pe_int (nomark _)) (pw_and1 (pt_cmpR op_gt (pe_ix (r := rIxL K) ix_list (pv 0) pe_int (fun _ _ => rfl)) pe_int (nomark _)))))))) (pss_cons (ps_set (i := 2) sc__law_roll.nd rfl (by first | exact Or.inl rfl | exact Or.inr rfl) (pe_op op_mod (pe_callTy call_int1 (by rfl) B.int (by decide +kernel) (pa_cons (pe_ix (r := rIxL K) ix_list (pv 0) pe_int (fun _ _ => rfl)) pa_nil)) (pv 1)))
      (pss_cons (ps_asg (pe_op op_fdiv (pe_ix (r := rIxL K) ix_list (pv 0) pe_int (fun _ _ => rfl)) (pv 1)) (pg_sub (pv 0) pe_int set_list))
      (pss_one (ps_ret (pv 2))))) pss_nil)
      (pss_cons (ps_asg pe_int (pg_sub (pv 0) pe_int set_list))
      (pss_cons (ps_if (pt_cmpR op_gt (pv 1) pe_int (nomark _)) (pss_one (ps_ret (pe_op op_mod (pe_callTy call_int1 (by rfl) B.int (by decide +kernel) (pa_cons (pe_op op_add (pe_op op_mul (pe_call o__law_roll (hr.mono (by decide)) (by rfl) m__law_roll k__law_roll b__law_roll .nil (passes_call (takes_of (E := E) rfl rfl rfl rfl) (fun _ _ _ _ h => h)) (pa_cons (pv 0) (pa_cons (pe_op op_add (pe_op op_fdiv (pv 1) pe_int) pe_int) pa_nil))) pe_int) (pe_call o__law_roll (hr.mono (by decide)) (by rfl) m__law_roll k__law_roll b__law_roll .nil (passes_call (takes_of (E := E) rfl rfl rfl rfl) (fun _ _ _ _ h => h)) (pa_cons (pv 0) (pa_cons pe_int pa_nil)))) pa_nil)) (pv 1)))) pss_nil)
      (pss_cons (ps_asg (pe_op op_mod (pe_callTy call_int1 (by rfl) B.int (by decide +kernel) (pa_cons (pe_op op_add (pe_op op_add (pe_op op_mul (pe_ix (r := rIxL K) ix_list (pv 0) pe_int (fun _ _ => rfl)) pe_int) (pe_op op_mul (pe_ix (r := rIxL K) ix_list (pv 0) pe_int (fun _ _ => rfl)) pe_int)) pe_int) pa_nil)) pe_int) (pg_sub (pv 0) pe_int set_list))
      (pss_cons (ps_asg (pe_op op_add (pe_ix (r := rIxL K) ix_list (pv 0) pe_int (fun _ _ => rfl)) pe_int) (pg_sub (pv 0) pe_int set_list))
      (pss_one (ps_ret (pe_op op_mod (pe_callTy call_int1 (by rfl) B.int (by decide +kernel) (pa_cons (pe_op op_fdiv (pe_ix (r := rIxL K) ix_list (pv 0) pe_int (fun _ _ => rfl)) pe_int) pa_nil)) (pv 1))))))))), ?_⟩)
  refine keeps h (by decide) ?_
  rintro ds r o hl ⟨p, ⟨a, b, c⟩, m, h1, h2, rfl, rfl, rfl⟩
  have i0 : ∀ g, g[0]? = some (some (D.ref p)) → ∀ (x y z : Int), Ev T K (tOp (rIxL K) (tVar 0) (tC (.int 0))) g [rl p [.int x, .int y, .int z]] (.int x) [rl p [.int x, .int y, .int z]] := fun g hg x y z => ev_op (ev_var hg) ev_int (od_ixL (vl_o 0 rfl) rfl)
  have i1 : ∀ g, g[0]? = some (some (D.ref p)) → ∀ (x y z : Int), Ev T K (tOp (rIxL K) (tVar 0) (tC (.int 1))) g [rl p [.int x, .int y, .int z]] (.int y) [rl p [.int x, .int y, .int z]] := fun g hg x y z => ev_op (ev_var hg) ev_int (od_ixL (vl_o 0 rfl) rfl)
  have i2 : ∀ g, g[0]? = some (some (D.ref p)) → ∀ (x y z : Int), Ev T K (tOp (rIxL K) (tVar 0) (tC (.int 2))) g [rl p [.int x, .int y, .int z]] (.int z) [rl p [.int x, .int y, .int z]] := fun g hg x y z => ev_op (ev_var hg) ev_int (od_ixL (vl_o 0 rfl) rfl)
  refine sq_if (et_or (et_test (ev_op (i2 _ rfl _ _ _) ev_int od_eqI)) fun _ => et_and (et_test (ev_op (i2 _ rfl _ _ _) ev_int od_eqI)) fun _ => et_test (ev_op (i0 _ rfl _ _ _) ev_int od_I0b)) (fun hb => ?_) (fun hb => ?_)
  · have hc : rollC (a, b, c) := by
      unfold rollC
      simpa using hb
    refine sq_seq (sq_set (ev_op (ev_cb (ea_cons (i0 _ rfl _ _ _) ea_nil) ca_intI) (ev_var rfl) (od_I (by omega))) ?_)
    refine sq_seq (sq_setL 0 (ev_op (i0 _ rfl _ _ _) (ev_var rfl) (od_I ⟨by omega, by omega⟩)) (ev_var rfl) ev_int rfl rfl ?_)
    refine sq_ret (st_ret (ev_var rfl) ?_)
    unfold rollV rollD
    rw [if_pos hc, if_pos hc]
    exact ⟨rfl, rfl⟩
  · have hc : ¬ rollC (a, b, c) := by
      unfold rollC
      simpa using hb
    refine sq_next (sq_setL 0 ev_int (ev_var rfl) ev_int rfl rfl ?_)
    refine sq_if (et_test (ev_op (ev_var rfl) ev_int od_I0b)) (fun hb2 => ?_) (fun _ => ?_)
    · simp at hb2; omega
    refine sq_next (sq_setL 0 (ev_op (ev_cb (ea_cons (ev_op (ev_op (ev_op (i0 _ rfl _ _ _) ev_int (od_I (Or.inr ⟨by decide, by decide⟩))) (ev_op (i1 _ rfl _ _ _) ev_int (od_I (Or.inr ⟨by decide, by decide⟩))) od_I0i) ev_int od_I0i) ea_nil) ca_intI) ev_int (od_I (by decide))) (ev_var rfl) ev_int rfl rfl ?_)
    refine sq_setL 0 (ev_op (i1 _ rfl _ _ _) ev_int od_I0i) (ev_var rfl) ev_int rfl rfl ?_
    refine st_ret (ev_op (ev_cb (ea_cons (ev_op (i0 _ rfl _ _ _) ev_int (od_I ⟨by decide, by decide⟩)) ea_nil) ca_intI) (ev_var rfl) (od_I (by omega))) ?_
    unfold rollV rollD
    rw [if_neg hc, if_neg hc]
    exact ⟨rfl, rfl⟩
theorem sc__law_rounds : FnScope ["script", "most", "cells", "cell"] ["script", "most"] (defScope s__law_rounds) := ⟨rfl, rfl, rfl, by decide +kernel, rfl, by decide +kernel, by decide +kernel⟩
theorem ok_rounds2 (F : Fun K "_law_rounds" "_law_rounds" s__law_rounds f fd) (B : Bi mg) (c_dice : Cal P w K mg base T "_law_dice" 1 ["cell"] R_dice) : FnOk P w K mg base (L2.CX P w) 2 f fd ["script", "most"] (spR T K 2 R_rounds2) := by
  obtain ⟨f_r, fd_r, o__law_dice, m__law_dice, k__law_dice, b__law_dice⟩ := c_dice.ex
  refine F.okX sc__law_rounds spR_len (fun cdv A outer s H vs Q E hr h => ⟨_, (pss_cons (ps_set (i := 2) sc__law_rounds.nd rfl (by first | exact Or.inl rfl | exact Or.inr rfl) (pe_slice (r := rSlL K) sl_list (pv 0) po_none (po_some (pv 1))))
      (pss_cons (ps_if (pt_cmpR (r := rEqD K) (op_eqD hr.units) (pv 2) (pe_lst pa_nil) (nomark _)) (pss_one (ps_set (i := 2) sc__law_rounds.nd rfl (by first | exact Or.inl rfl | exact Or.inr rfl) (pe_lst (pa_cons pe_int pa_nil)))) pss_nil)
      (pss_one (ps_ret (pe_lc (own := [("cell", 3)]) rfl sc__law_rounds.nd (pi_list (pv 2)) (blkOk_by (N := ["script", "most", "cells", "cell"]) (by kernel_rfl)) (fun _ _ _ _ _ => (pg_name (i := 3) sc__law_rounds.nd rfl (by first | exact Or.inl rfl | exact Or.inr rfl))) (fun _ _ _ _ _ => pts_nil) (fun _ _ _ _ _ => (pe_call o__law_dice (hr.mono (by decide)) (by rfl) m__law_dice k__law_dice b__law_dice .nil passL (pa_cons (pv 3) pa_nil)))))))), ?_⟩)
  refine keeps h (by decide) ?_
  rintro ds r o hl ⟨ns, rfl, rfl, rfl⟩
  refine sq_new (en_slQ (ev_var rfl) eo_none (eo_some (ev_var rfl))) fun p => ?_
  rw [cut_upto (by omega), ← List.map_take]
  have fin : ∀ (c : Int), StD T K E (tRet (tLc (iList K (tVar 2)) (gName 3) tYes (tCall (spR T K 1 R_dice) [] L2.E0 (tCons (tVar 3) tNil)) [3])) [some (.lsq (ns.map D.int)), some (.int 1), some (.lst [.int c]), none] [] { nx := fun _ r' => ∃ p s, D.non = .lst [.ref p] ∧ r' = [rl p (diceD s)], rt := fun d r' => ∃ p s, d = .lst [.ref p] ∧ r' = [rl p (diceD s)], ex := fun _ _ => False } := by
    intro c
    refine st_retNP (en_lcP (ei_lst (ev_var rfl)) (fun i acc r' => (i = 0 ∧ acc = [] ∧ r' = []) ∨ (i = 1 ∧ ∃ p s, acc = [.ref p] ∧ r' = [rl p (diceD s)])) (Or.inl ⟨rfl, rfl, rfl⟩) (by simp) ?_ (fun ds r' h => h)) (fun ds r' hI => ?_)
    · rintro i d acc r' hd hI
      have hi : i = 0 := by
        have := (List.getElem?_eq_some_iff.mp hd).1
        simp at this
        exact this
      subst hi
      simp at hd
      subst hd
      rcases hI with ⟨_, rfl, rfl⟩ | ⟨z, _⟩
      · refine ⟨_, _, eg_name, by simp, EvP.mono (ep_callN (n := 1) (ea_cons (ev_var rfl) ea_nil) rfl ⟨c, rfl, rfl, rfl⟩ (fun _ _ z => z)) ?_⟩
        rintro d r ⟨r2, ⟨p, rfl, rfl⟩, rfl⟩
        exact Or.inr ⟨rfl, p, _, rfl, rfl⟩
      · cases z
    · rcases hI with ⟨z, _⟩ | ⟨_, p, s, rfl, rfl⟩
      · simp at z
      · exact ⟨p, s, rfl, rfl⟩
  cases ns with
  | nil =>
    refine sq_if (et_test (ev_op (ev_var rfl) (en_lst ea_nil (by simp)).ev (od_eqD (vd_il 0 rfl) (vd_f (d := .lst ([].map D.int))) (sh_il _) (sh_il [])))) (fun _ => ?_) (fun hb => ?_)
    · refine sq_new (en_lst (ea_cons ev_int ea_nil) (by simp)) fun q => ?_
      refine st_freeze 2 0 rfl rfl ?_
      exact st_dropA (r1 := [_]) (r2 := []) (fin 0)
    · rw [eq_il] at hb
      simp at hb
  | cons c ns =>
    refine sq_if (et_test (ev_op (ev_var rfl) (en_lst ea_nil (by simp)).ev (od_eqD (vd_il 0 rfl) (vd_f (d := .lst ([].map D.int))) (sh_il _) (sh_il [])))) (fun hb => ?_) (fun _ => ?_)
    · rw [eq_il] at hb
      simp at hb
    · refine sq_next (st_freeze 2 0 rfl rfl ?_)
      exact fin c
theorem sc__law_row : FnScope ["dice", "bells", "found", "bell", "place"] ["dice", "bells"] (defScope s__law_row) := ⟨rfl, rfl, rfl, by decide +kernel, rfl, by decide +kernel, by decide +kernel⟩
theorem ok_row (F : Fun K "_law_row" "_law_row" s__law_row f fd) (B : Bi mg) (c_roll : Cal P w K mg base T "_law_roll" 1 ["dice", "many"] R_roll) : FnOk P w K mg base (L2.CX P w) 2 f fd ["dice", "bells"] (spR T K 2 R_row) := by
  obtain ⟨f_r, fd_r, o__law_roll, m__law_roll, k__law_roll, b__law_roll⟩ := c_roll.ex
  refine F.okX sc__law_row spR_len (fun cdv A outer s H vs Q E hr h => ⟨_, (pss_cons (ps_set (i := 2) sc__law_row.nd rfl (by first | exact Or.inl rfl | exact Or.inr rfl) (pe_lst pa_nil))
      (pss_cons (ps_for (passes_of rfl) rfl (pi_range2 rfl B.range (pa_cons pe_int (pa_cons (pe_op op_add (pv 1) pe_int) pa_nil))) (pg_name (i := 3) sc__law_row.nd rfl (by first | exact Or.inl rfl | exact Or.inr rfl)) (pss_cons (ps_set (i := 4) sc__law_row.nd rfl (by first | exact Or.inl rfl | exact Or.inr rfl) (pe_call o__law_roll (hr.mono (by decide)) (by rfl) m__law_roll k__law_roll b__law_roll .nil (passes_call (takes_of (E := E) rfl rfl rfl rfl) (fun _ _ _ _ h => h)) (pa_cons (pv 0) (pa_cons (pe_op op_add (pe_callB (r := rLenX K) call_len (by rfl) B.len PySem.boot_len (pa_cons (pv 2) pa_nil)) pe_int) pa_nil))))
      (pss_one (ps_set (i := 2) sc__law_row.nd rfl (by first | exact Or.inl rfl | exact Or.inr rfl) (pe_op op_cat (pe_op op_cat (pe_slice (r := rSlL K) sl_list (pv 2) po_none (po_some (pv 4))) (pe_lst (pa_cons (pv 3) pa_nil))) (pe_slice (r := rSlL K) sl_list (pv 2) (po_some (pv 4)) po_none))))))
      (pss_one (ps_ret (pe_tupX (by rfl) B.tuple (pv 2)))))), ?_⟩)
  refine keeps h (by decide) ?_
  rintro ds r o hl ⟨p, s, n, hn, rfl, rfl, rfl⟩
  refine sq_new (en_lst ea_nil (by simp)) fun q => ?_
  refine st_seq (M := fun g r => ∃ q x y, g = [some (.ref p), some (.int (n : Nat)), some (.ref q), x, y] ∧ r = [rl q ((rowS s n).1.map D.int), rl p (diceD (rowS s n).2)])
    (st_for (ei_rg2 (ea_cons ev_int (ea_cons (ev_op (ev_var rfl) ev_int od_I0i) ea_nil)) (by omega) (by omega)) (fun i g r => ∃ q x y, g = [some (.ref p), some (.int (n : Nat)), some (.ref q), x, y] ∧ r = [rl q ((rowS s i).1.map D.int), rl p (diceD (rowS s i).2)]) ⟨q, _, _, rfl, rfl⟩ ?_ ?_) ?_
  · rintro i d g r hd ⟨q, x, y, rfl, rfl⟩
    have hi : i < n := by
      have := (List.getElem?_eq_some_iff.mp hd).1
      simp [rgD] at this
      omega
    have hde : d = .int ((i : Int) + 1) := by
      unfold rgD at hd
      rw [List.getElem?_map, List.getElem?_range (by omega)] at hd
      simp at hd
      rw [← hd, Int.add_comm]
    subst hde
    refine ⟨_, _, eg_name, ?_⟩
    have hlen : (rowS s i).1.length = i := by rw [(rowS_perm s i).length_eq, rng_len]
    have hL : (((rowS s i).1.map D.int).length : Int) + 1 = (i : Int) + 1 := by rw [List.length_map, hlen]
    have hv := rollV_lt (s := (rowS s i).2) (m := (i : Int) + 1) (by omega)
    have e1 : Ev T K (tCall (spR T K 2 R_roll) [] E (tCons (tVar 0) (tCons (tOp (rI0 fun i j => .int (i + j)) (tCB (rLenX K) (tCons (tVar 2) tNil)) (tC (.int 1))) tNil))) [some (.ref p), some (.int (n : Nat)), some (.ref q), some (.int ((i : Int) + 1)), y] [rl q ((rowS s i).1.map D.int), rl p (diceD (rowS s i).2)] (.int (rollV (rowS s i).2 ((i : Int) + 1))) [rl q ((rowS s i).1.map D.int), rl p (diceD (rollD (rowS s i).2 ((i : Int) + 1)))] :=
      ev_call1 (n := 2) 1 (ea_cons (ev_var rfl) (ea_cons (ev_op (ev_cb (ea_cons (ev_var rfl) ea_nil) (ca_len (vs_o 0 rfl))) ev_int od_I0i) ea_nil)) rfl rfl ⟨p, (rowS s i).2, (i : Int) + 1, by omega, by omega, by rw [← hL], rfl, rfl⟩
    refine sq_set e1 ?_
    generalize hvv : rollV (rowS s i).2 ((i : Int) + 1) = v at hv
    have e2 : EvN T K (tOp rCat (tOp rCat (tSl (rSlL K) (tVar 2) tNoPart (tPart (tVar 4))) (tLst (tCons (tVar 3) tNil))) (tSl (rSlL K) (tVar 2) (tPart (tVar 4)) tNoPart)) [some (.ref p), some (.int (n : Nat)), some (.ref q), some (.int ((i : Int) + 1)), some (.int v)] [rl q ((rowS s i).1.map D.int), rl p (diceD (rollD (rowS s i).2 ((i : Int) + 1)))]
        (cutD ((rowS s i).1.map D.int) none (some v) ++ [.int ((i : Int) + 1)] ++ cutD ((rowS s i).1.map D.int) (some v) none) [rl q ((rowS s i).1.map D.int), rl p (diceD (rollD (rowS s i).2 ((i : Int) + 1)))] := by
      refine en_cat (en_cat (en_slL (ev_var rfl) eo_none (eo_some (ev_var rfl)) (vl_o 0 rfl)).ev (en_lst (ea_cons (ev_var rfl) ea_nil) (by simp)).ev vl_f vl_f ?_).ev (en_slL (ev_var rfl) (eo_some (ev_var rfl)) eo_none (vl_o 0 rfl)).ev vl_f vl_f ?_
      · rw [cut_upto hv.1]; simp; omega
      · rw [cut_upto hv.1, cut_from hv.1]; simp; omega
    rw [cut_upto hv.1, cut_from hv.1] at e2
    refine st_nxD 1 (st_new e2 fun u => ⟨by simp, u, _, _, rfl, ?_⟩)
    show [rl u _, rl p _] = [rl u _, rl p _]
    have e3 : ((rowS s i).1.map D.int).take v.toNat ++ [D.int ((i : Int) + 1)] ++ ((rowS s i).1.map D.int).drop v.toNat = (rowS s (i + 1)).1.map D.int := by
      show _ = ((rowS s i).1.take (rollV (rowS s i).2 ((i : Int) + 1)).toNat ++ [((i + 1 : Nat) : Int)] ++ (rowS s i).1.drop (rollV (rowS s i).2 ((i : Int) + 1)).toNat).map D.int
      rw [hvv]
      simp
    rw [e3]
    rfl
  · rintro g r ⟨q, x, y, rfl, rfl⟩
    have : (rgD 1 (((n : Int) + 1) - 1).toNat).length = n := by simp [rgD]
    rw [this]
    exact ⟨q, x, y, rfl, rfl⟩
  · rintro g r ⟨q, x, y, rfl, rfl⟩
    refine st_retD (r1 := [_]) (r2 := [_]) (ev_tupX (ev_var rfl) (vl_o 0 rfl)) ?_
    exact ⟨rfl, rfl⟩
end
end Bs
namespace Bs
open PySem PySem.Spec PyProof.Rows L2 DL GX GxR LmX

abbrev sErr : Str := "RowError"
section
variable {P : Program} {w : World} {K : PySem.W.Frag} {mg : Str → Option Value} {base : Heap} {T : Tb} {cRow : Addr} {f c Pt : Addr} {fd : FuncData} {uS : Value}
/-- what is told: the lambda's body raises RowError -/
def R_told (P : Program) (w : World) (K : PySem.W.Frag) (mg : Str → Option Value) (base : Heap) (T : Tb) (k : Nat) (C : Addr) : Rel := fun ds r o => ∃ I : LInfo, LmOk P w K mg base (L2.CX P w) k I (spL T K (Oc.err C [])) ∧ ds = [.lam I] ∧ r = [] ∧ o = .one (.str sErr) []
theorem sc__law_told : FnScope ["what"] ["what"] (defScope s__law_told) := ⟨rfl, rfl, rfl, by decide +kernel, rfl, by decide +kernel, by decide +kernel⟩
theorem ok_told (F : Fun K "_law_told" "_law_told" s__law_told f fd) (e_RowError : Er K mg "RowError" cRow) (hx : PySem.W.exmOne K (.ref cRow) (.ref cRow) = some true) (k : Nat) : FnOk P w K mg base (L2.CX P w) (k + 1) f fd ["what"] (spR T K 1 (R_told P w K mg base T k cRow)) := by
  refine F.okX sc__law_told spR_len (fun cdv A outer s H vs Q E hr h => ⟨_,
    pss_one (ps_try_only (tb := fun W D σ H => ∃ Ech : XK, (∀ cls d σ' H', Ech cls d H' → W cls d σ' H') ∧ tActL (L2.CX P w) P w K mg base k 0 Ech σ H D.rt) (c := .ref cRow) rfl rfl ⟨by rfl, by decide, Or.inl e_RowError.g⟩ (takes_of (E := E) rfl rfl rfl rfl)
      (fun W pn xe tk _ => ⟨fun pins s' σ H' D I h' => by
        obtain ⟨Ech, hW, h3⟩ := h'
        exact (pss_one (ps_ret (pe_actL (i := 0) rfl (Or.inl rfl) hr (passes_call tk hW)))).run pins s' σ H' D I h3⟩)
      (fun a oe cls d pn _ _ => pss_one (ps_ret pe_str))), ?_⟩)
  refine keeps (N := ["what"]) (tt := fun D σ H => ∃ Ech : XK, (∀ cls d σ' H', Ech cls d H' → wOnly K (.ref cRow) (fun _ _ _ => tRet (tC (.str sErr))) (fun cls d _ H => E cls d H) D cls d σ' H') ∧ tActL (L2.CX P w) P w K mg base k 0 Ech σ H D.rt) h (by decide) ?_
  rintro ds r o hl ⟨I, hI, rfl, rfl, rfl⟩
  refine st_told rfl hI (fun C z => z.1) hx (fun d z => z.elim) fun _ => ⟨rfl, rfl⟩
/-! ### runs of the law -/
def stepsV (l : List Int) (s e : Nat) : List Int := ((l.drop s).take (e - s)).zipWith (fun a b => b - a) ((l.drop (s + 1)).take (e - (s + 1)))
def allSame (x : List Int) : Bool := decide (x = List.replicate x.length 1) || decide (x = List.replicate x.length (-1))
def innR (l : List Int) (s m : Nat) : List Trip := (List.range m).filterMap fun j => if allSame (stepsV l s (s + 2 + j)) then some ((s : Int), ((2 + j : Nat) : Int), (stepsV l s (s + 2 + j)).getD 0 0) else none
def allR (l : List Int) (n : Nat) : List Trip := (List.range n).flatMap fun s => innR l s (l.length + 1 - (s + 2))
def covB (one other : Trip) : Bool := decide (other ≠ one) && (decide (other.1 ≤ one.1) && decide (one.1 + one.2.1 ≤ other.1 + other.2.1))
def keepB (l : List Int) (least : Int) (one : Trip) : Bool := decide (least ≤ one.2.1) && decide ((allR l l.length).filter (covB one) = [])
def lrunsV (l : List Int) (least : Int) : List Trip := (allR l l.length).filter (keepB l least)
def R_lruns : Rel := fun ds r o => ∃ (l : List Int) (least : Int), l.length ≤ 12 ∧ ds = [rowD l, .int least] ∧ r = [] ∧ o = .one (.lst ((lrunsV l least).map tripD)) []
theorem trip_inj {a b : Trip} : tripD a = tripD b ↔ a = b := by
  constructor
  · intro h
    injection h with h
    simp at h
    obtain ⟨h1, h2, h3⟩ := h
    exact Prod.ext h1 (Prod.ext h2 h3)
  · intro h
    rw [h]
theorem eq_trip (a b : Trip) : eqD (tripD a) (tripD b) = decide (a = b) := by
  rw [Bool.eq_iff_iff, eqD_iff rfl rfl, decide_eq_true_eq]
  exact trip_inj
theorem sh_trip (a : Trip) : sh (tripD a) = true := by
  unfold sh
  simp [pl, pls, dep, deps]
theorem get_trip {l : List Trip} {i : Nat} {d : D} (h : (l.map tripD)[i]? = some d) : ∃ t, t ∈ l ∧ d = tripD t := by
  rw [List.getElem?_map] at h
  cases q : l[i]? with
  | none => rw [q] at h; cases h
  | some t =>
    rw [q] at h
    cases h
    exact ⟨t, List.mem_of_getElem? q, rfl⟩
def subD : D → D
  | .tup [.int a, .int b] => .int (b - a)
  | _ => .non
theorem zip_sub : ∀ (x y : List Int), (((x.map D.int).zipWith (fun p q => D.tup [p, q]) (y.map D.int)).map subD) = (x.zipWith (fun a b => b - a) y).map D.int
  | [], _ => rfl
  | _ :: _, [] => rfl
  | a :: x, b :: y => by
    simp only [List.map_cons, List.zipWith_cons_cons]
    rw [zip_sub x y]
    rfl
theorem rep_int (n : Nat) (v : Int) : (List.replicate n [D.int v]).flatten = (List.replicate n v).map D.int := by
  induction n with
  | zero => rfl
  | succ n ih =>
    rw [List.replicate_succ, List.flatten_cons, ih, List.replicate_succ]
    rfl
theorem sh_rep2 (a b : List Int) : sh (.lst [.lst (a.map D.int), .lst (b.map D.int)]) = true := by
  unfold sh
  simp [pl, pls, dep, deps, pl_ints, dep_ints]
theorem filt_trip {l : List Trip} {p : Trip → Bool} {q : D → Bool} (h : ∀ t, q (tripD t) = p t) : (l.map tripD).filter q = (l.filter p).map tripD := by
  induction l with
  | nil => rfl
  | cons a l ih =>
    rw [List.map_cons, List.filter_cons, List.filter_cons, h, ih]
    split <;> rfl
def toT : D → Trip
  | .tup [.int a, .int b, .int c] => (a, b, c)
  | _ => (0, 0, 0)
theorem stepsV_len (l : List Int) (s e : Nat) : (stepsV l s e).length ≤ l.length := by
  unfold stepsV
  simp
  omega
theorem allR_len (l : List Int) : ∀ n, (allR l n).length ≤ n * (l.length + 1)
  | 0 => by simp [allR]
  | n + 1 => by
    have e : allR l (n + 1) = allR l n ++ innR l n (l.length + 1 - (n + 2)) := by
      unfold allR
      rw [List.range_succ, List.flatMap_append]
      simp
    have h2 : (innR l n (l.length + 1 - (n + 2))).length ≤ l.length + 1 - (n + 2) := by
      unfold innR
      exact Nat.le_trans (List.length_filterMap_le _ _) (by simp)
    have ih := allR_len l n
    rw [e, List.length_append, Nat.succ_mul]
    omega
theorem sc__law_runs : FnScope ["row", "least", "found", "start", "end", "steps", "a", "b", "one", "other"] ["row", "least"] (defScope s__law_runs) := ⟨rfl, rfl, rfl, by decide +kernel, rfl, by decide +kernel, by decide +kernel⟩
theorem ok_lruns (F : Fun K "_law_runs" "_law_runs" s__law_runs f fd) (B : Bi mg) : FnOk P w K mg base (L2.CX P w) 1 f fd ["row", "least"] (spR T K 2 R_lruns) := by
  refine F.okX sc__law_runs spR_len (fun cdv A outer s H vs Q E hr h => ⟨_, (pss_cons (ps_set (i := 2) sc__law_runs.nd rfl (by first | exact Or.inl rfl | exact Or.inr rfl) (pe_lst pa_nil))
      (pss_cons (ps_for (passes_of rfl) rfl (pi_range1 rfl B.range (pa_cons (pe_callB (r := rLenX K) call_len (by rfl) B.len PySem.boot_len (pa_cons (pv 0) pa_nil)) pa_nil)) (pg_name (i := 3) sc__law_runs.nd rfl (by first | exact Or.inl rfl | exact Or.inr rfl)) (pss_one (ps_for (passes_of rfl) rfl (pi_range2 rfl B.range (pa_cons (pe_op op_add (pv 3) pe_int) (pa_cons (pe_op op_add (pe_callB (r := rLenX K) call_len (by rfl) B.len PySem.boot_len (pa_cons (pv 0) pa_nil)) pe_int) pa_nil))) (pg_name (i := 4) sc__law_runs.nd rfl (by first | exact Or.inl rfl | exact Or.inr rfl)) (pss_cons (ps_setLc (i := 5) (own := [("a", 6), ("b", 7)]) rfl sc__law_runs.nd rfl rfl (sw_true rfl rfl rfl (by decide +kernel)) (RZ.pi_zipA (by rfl) B.zip (pa_cons (pe_slice (r := rSlA K) sl_tupA (pv 0) (po_some (pv 3)) (po_some (pv 4))) (pa_cons (pe_slice (r := rSlA K) sl_tupA (pv 0) (po_some (pe_op op_add (pv 3) pe_int)) (po_some (pv 4))) pa_nil))) (blkOk_by (N := ["row", "least", "found", "start", "end", "steps", "a", "b", "one", "other"]) (by kernel_rfl)) (fun _ _ _ _ _ => (show PG _ _ (gTup K 2 _) from pg_tup (by rfl) (pgs_cons (pg_name (i := 6) sc__law_runs.nd rfl (by first | exact Or.inl rfl | exact Or.inr rfl)) (pgs_cons (pg_name (i := 7) sc__law_runs.nd rfl (by first | exact Or.inl rfl | exact Or.inr rfl)) pgs_nil)))) (fun _ _ _ _ _ => pts_nil) (fun _ _ _ _ _ => (pe_op op_sub (pv 7) (pv 6))))
      (pss_one (ps_if (pt_cmpR (r := rInD K) (op_inD (units65 hr)) (pv 5) (pe_lst (pa_cons (pe_op op_rep (pe_lst (pa_cons pe_int pa_nil)) (pe_callB (r := rLenX K) call_len (by rfl) B.len PySem.boot_len (pa_cons (pv 5) pa_nil))) (pa_cons (pe_op op_rep (pe_lst (pa_cons (pe_un un_neg pe_int) pa_nil)) (pe_callB (r := rLenX K) call_len (by rfl) B.len PySem.boot_len (pa_cons (pv 5) pa_nil))) pa_nil))) (by rfl)) (pss_one (ps_expr (pe_bm PySem.F.plainAttrs_list PySem.F.slot_list_append PySem.F.type_list_append mt_append (pv 2) (pa_cons (pe_tup (pa_cons (pv 3) (pa_cons (pe_op op_sub (pv 4) (pv 3)) (pa_cons (pe_ix (r := rIxL K) ix_list (pv 5) pe_int (fun _ _ => rfl)) pa_nil)))) pa_nil)))) pss_nil))))))
      (pss_one (ps_ret (pe_lc (own := [("one", 8)]) rfl sc__law_runs.nd (pi_list (pv 2)) (blkOk_by (N := ["row", "least", "found", "start", "end", "steps", "a", "b", "one", "other"]) (by kernel_rfl)) (fun _ _ _ _ _ => (pg_name (i := 8) sc__law_runs.nd rfl (by first | exact Or.inl rfl | exact Or.inr rfl))) (fun _ _ _ _ _ => (pts_one (PW.pt (pw_and (pt_cmpR op_ge (pe_ix (r := rIxT K) ix_tup (pv 8) pe_int (fun _ _ => rfl)) (pv 1) (nomark _)) (pw_and1 (pt_cmpR (r := rEqD K) (op_eqD hr.units) (pe_lc (own := [("other", 9)]) rfl sc__law_runs.nd (show PI _ _ _ (iList K _) from pi_list (pv 2)) (blkOk_by (N := ["row", "least", "found", "start", "end", "steps", "a", "b", "one", "other"]) (by kernel_rfl)) (fun _ _ _ _ _ => (pg_name (i := 9) sc__law_runs.nd rfl (by first | exact Or.inl rfl | exact Or.inr rfl))) (fun _ _ _ _ _ => (pts_one (PW.pt (pw_and (pt_cmpR (r := rNeD K) (op_neD hr.units) (pv 9) (pv 8) (nomark _)) (pw_and (pt_cmpR op_le (pe_ix (r := rIxT K) ix_tup (pv 9) pe_int (fun _ _ => rfl)) (pe_ix (r := rIxT K) ix_tup (pv 8) pe_int (fun _ _ => rfl)) (nomark _)) (pw_and1 (pt_cmpR op_le (pe_op op_add (pe_ix (r := rIxT K) ix_tup (pv 8) pe_int (fun _ _ => rfl)) (pe_ix (r := rIxT K) ix_tup (pv 8) pe_int (fun _ _ => rfl))) (pe_op op_add (pe_ix (r := rIxT K) ix_tup (pv 9) pe_int (fun _ _ => rfl)) (pe_ix (r := rIxT K) ix_tup (pv 9) pe_int (fun _ _ => rfl))) (nomark _)))))))) (fun _ _ _ _ _ => pe_int)) (pe_lst pa_nil) (nomark _))))))) (fun _ _ _ _ _ => (pv 8))))))), ?_⟩)
  refine keeps h (by decide) ?_
  rintro ds r o hl ⟨l, least, hn, rfl, rfl, rfl⟩
  have hL : ((l.map D.int).length : Int) = (l.length : Int) := by rw [List.length_map]
  refine sq_new (en_lst ea_nil (by simp)) fun p => ?_
  refine st_seq (M := fun g r => ∃ a b c d e h i, g = [some (rowD l), some (.int least), some (.ref p), a, b, c, d, e, h, i] ∧ r = [rl p ((allR l l.length).map tripD)])
    (st_for (ei_rg1 (ea_cons (ev_cb (ea_cons (ev_var rfl) ea_nil) (ca_len vs_t)) ea_nil) (by omega)) (fun s g r => s ≤ l.length ∧ ∃ a b c d e h i, g = [some (rowD l), some (.int least), some (.ref p), a, b, c, d, e, h, i] ∧ r = [rl p ((allR l s).map tripD)]) ⟨Nat.zero_le _, _, _, _, _, _, _, _, rfl, rfl⟩ ?_ ?_) ?_
  · rintro s d g r hd ⟨_, a, b, c, d', e, h, i, rfl, rfl⟩
    have hs : s < l.length := by
      have := (List.getElem?_eq_some_iff.mp hd).1
      simpa [rgD] using this
    have hde : d = .int (s : Int) := by
      unfold rgD at hd
      rw [List.getElem?_map, List.getElem?_range (by simpa using hs)] at hd
      simp at hd
      exact hd.symm
    subst hde
    refine ⟨_, _, eg_name, ?_⟩
    have hcnt : ((((l.map D.int).length : Int) + 1) - ((s : Int) + 2)).toNat = l.length + 1 - (s + 2) := by omega
    refine st_for (ei_rg2 (ea_cons (ev_op (ev_var rfl) ev_int od_I0i) (ea_cons (ev_op (ev_cb (ea_cons (ev_var rfl) ea_nil) (ca_len vs_t)) ev_int od_I0i) ea_nil)) (by omega) (by omega)) (fun m g r => ∃ b c d e h i, g = [some (rowD l), some (.int least), some (.ref p), some (.int (s : Int)), b, c, d, e, h, i] ∧ r = [rl p ((allR l s ++ innR l s m).map tripD)]) ⟨_, _, _, _, _, _, rfl, by simp [innR]⟩ ?_ ?_
    · rintro j d g r hd ⟨b, c, d', e, h, i, rfl, rfl⟩
      have hj : j < l.length + 1 - (s + 2) := by
        have := (List.getElem?_eq_some_iff.mp hd).1
        simp [rgD] at this
        omega
      have hde : d = .int ((s + 2 + j : Nat) : Int) := by
        unfold rgD at hd
        rw [List.getElem?_map, List.getElem?_range (by omega)] at hd
        simp at hd
        rw [← hd]
        simp
      subst hde
      refine ⟨_, _, eg_name, ?_⟩
      have c1 : cutD (l.map D.int) (some (s : Int)) (some ((s + 2 + j : Nat) : Int)) = ((l.drop s).take (s + 2 + j - s)).map D.int := by
        rw [cut_mid (by omega) (by omega), ← List.map_drop, ← List.map_take]
        congr 2
      have c2 : cutD (l.map D.int) (some ((s : Int) + 1)) (some ((s + 2 + j : Nat) : Int)) = ((l.drop (s + 1)).take (s + 2 + j - (s + 1))).map D.int := by
        rw [cut_mid (by omega) (by omega), ← List.map_drop, ← List.map_take]
        congr 2
      have e1 : EvN T K (tLc (RZ.iZipA K (tCons (tSl (rSlA K) (tVar 0) (tPart (tVar 3)) (tPart (tVar 4))) (tCons (tSl (rSlA K) (tVar 0) (tPart (tOp (rI0 fun i j => .int (i + j)) (tVar 3) (tC (.int 1)))) (tPart (tVar 4))) tNil))) (gTup K 2 (gCons (gName 6) (gCons (gName 7) gNil))) tYes (tOp (rI0 fun i j => .int (i - j)) (tVar 7) (tVar 6)) [6, 7])
          [some (rowD l), some (.int least), some (.ref p), some (.int (s : Int)), some (.int ((s + 2 + j : Nat) : Int)), c, d', e, h, i] [rl p ((allR l s ++ innR l s j).map tripD)] ((stepsV l s (s + 2 + j)).map D.int) [rl p ((allR l s ++ innR l s j).map tripD)] := by
        have e0 : EvI T K (RZ.iZipA K (tCons (tSl (rSlA K) (tVar 0) (tPart (tVar 3)) (tPart (tVar 4))) (tCons (tSl (rSlA K) (tVar 0) (tPart (tOp (rI0 fun i j => .int (i + j)) (tVar 3) (tC (.int 1)))) (tPart (tVar 4))) tNil)))
            [some (rowD l), some (.int least), some (.ref p), some (.int (s : Int)), some (.int ((s + 2 + j : Nat) : Int)), c, d', e, h, i] [rl p ((allR l s ++ innR l s j).map tripD)] ((cutD (l.map D.int) (some (s : Int)) (some ((s + 2 + j : Nat) : Int))).zipWith (fun p q => D.tup [p, q]) (cutD (l.map D.int) (some ((s : Int) + 1)) (some ((s + 2 + j : Nat) : Int)))) [rl p ((allR l s ++ innR l s j).map tripD)] :=
          ei_zipT (ea_cons (ev_slT (ev_var rfl) (eo_some (ev_var rfl)) (eo_some (ev_var rfl))) (ea_cons (ev_slT (ev_var rfl) (eo_some (ev_op (ev_var rfl) ev_int od_I0i)) (eo_some (ev_var rfl))) ea_nil))
        rw [c1, c2] at e0
        unfold stepsV
        rw [← zip_sub]
        refine en_lcM e0 (by simp; omega) subD fun n d hd => ?_
        rw [List.getElem?_zipWith, List.getElem?_map, List.getElem?_map] at hd
        cases q1 : (List.take (s + 2 + j - s) (List.drop s l))[n]? with
        | none => rw [q1] at hd; cases hd
        | some u =>
          cases q2 : (List.take (s + 2 + j - (s + 1)) (List.drop (s + 1) l))[n]? with
          | none => rw [q1, q2] at hd; cases hd
          | some v =>
            rw [q1, q2] at hd
            cases hd
            exact ⟨_, _, eg_tup (egs_cons eg_name (egs_cons eg_name egs_nil)) rfl, by simp, ev_op (ev_var rfl) (ev_var rfl) od_I0i⟩
      have hslen := stepsV_len l s (s + 2 + j)
      have hpos : 0 < (stepsV l s (s + 2 + j)).length := by
        unfold stepsV
        rw [List.length_zipWith, List.length_take, List.length_take, List.length_drop, List.length_drop]
        omega
      have hin : innR l s (j + 1) = innR l s j ++ (if allSame (stepsV l s (s + 2 + j)) then [((s : Int), ((2 + j : Nat) : Int), (stepsV l s (s + 2 + j)).getD 0 0)] else []) := by
        unfold innR
        rw [List.range_succ, List.filterMap_append, List.filterMap_cons, List.filterMap_nil]
        split <;> simp_all
      generalize stepsV l s (s + 2 + j) = st at e1 hslen hpos hin
      refine sq_new e1 fun u => ?_
      have hLs : ((st.map D.int).length : Int) = (st.length : Int) := by rw [List.length_map]
      have rp : ∀ (v : Int) (te : TE), Ev T K te [some (rowD l), some (.int least), some (.ref p), some (.int (s : Int)), some (.int ((s + 2 + j : Nat) : Int)), some (.ref u), d', e, h, i] [rl u (st.map D.int), rl p ((allR l s ++ innR l s j).map tripD)] (.int v) [rl u (st.map D.int), rl p ((allR l s ++ innR l s j).map tripD)] →
          Ev T K (tOp rRep (tLst (tCons te tNil)) (tCB (rLenX K) (tCons (tVar 5) tNil))) [some (rowD l), some (.int least), some (.ref p), some (.int (s : Int)), some (.int ((s + 2 + j : Nat) : Int)), some (.ref u), d', e, h, i] [rl u (st.map D.int), rl p ((allR l s ++ innR l s j).map tripD)] (.lst ((List.replicate st.length v).map D.int)) [rl u (st.map D.int), rl p ((allR l s ++ innR l s j).map tripD)] := fun v te hte => by
        have q := (en_rep (en_lst (ea_cons hte ea_nil) (by simp)).ev (ev_cb (ea_cons (ev_var (i := 5) rfl) ea_nil) (ca_len (K := K) (vs_o 0 rfl))) vl_f (by omega) (by rw [hLs]; simp; omega)).ev
        rw [hLs, Int.toNat_natCast, rep_int] at q
        exact q
      refine st_nxD 0 (st_if (b := allSame st) (et_of_eq (et_test (ev_op (ev_var rfl) (en_lst (ea_cons (rp 1 _ ev_int) (ea_cons (rp (-1) _ (ev_neg ev_int)) ea_nil)) (by simp)).ev (od_inD (vd_il 0 rfl) vl_f (sh_il _) (sh_rep2 _ _)))) ?_) (fun hb => ?_) (fun hb => ?_))
      · simp only [List.any_cons, List.any_nil, Bool.or_false]
        rw [eq_il, eq_il]
        unfold allSame
        congr 1
        · exact decide_eq_decide.mpr eq_comm
        · exact decide_eq_decide.mpr eq_comm
      · refine st_dropE (ev_append 1 (ev_var rfl) rfl (ev_tup (ea_cons (ev_var rfl) (ea_cons (ev_op (ev_var rfl) (ev_var rfl) od_I0i) (ea_cons (ev_op (ev_var rfl) ev_int (od_ixLI (vl_o 0 rfl) (by omega) (by simp; omega))) ea_nil))) (trip_sz _ _ _)) rfl ?_) ?_
        · have h1 := allR_len l s
          have h2 : (innR l s j).length ≤ j := by
            unfold innR
            exact Nat.le_trans (List.length_filterMap_le _ _) (by simp)
          have h3 : s * (l.length + 1) ≤ 12 * 13 := Nat.mul_le_mul (by omega) (by omega)
          rw [List.length_map, List.length_append]
          omega
        · rw [hb] at hin
          refine ⟨by simp, _, _, _, _, _, _, rfl, ?_⟩
          rw [hin]
          have e8 : ((s + 2 + j : Nat) : Int) - (s : Int) = ((2 + j : Nat) : Int) := by omega
          rw [e8]
          simp
      · rw [hb] at hin
        refine st_next ⟨by simp, _, _, _, _, _, _, rfl, ?_⟩
        rw [hin]
        simp
    · rintro g r ⟨b, c, d, e, h, i, rfl, rfl⟩
      refine ⟨by omega, _, _, _, _, _, _, _, rfl, ?_⟩
      have e9 : (rgD ((s : Int) + 2) (((l.map D.int).length : Int) + 1 - ((s : Int) + 2)).toNat).length = l.length + 1 - (s + 2) := by
        unfold rgD
        rw [List.length_map, List.length_range, hcnt]
      rw [e9]
      have : allR l (s + 1) = allR l s ++ innR l s (l.length + 1 - (s + 2)) := by
        unfold allR
        rw [List.range_succ, List.flatMap_append]
        simp
      rw [this]
  · rintro g r ⟨_, a, b, c, d, e, h, i, rfl, rfl⟩
    have : (rgD 0 ((l.map D.int).length : Int).toNat).length = l.length := by simp [rgD]
    rw [this]
    exact ⟨a, b, c, d, e, h, i, rfl, rfl⟩
  · rintro g r ⟨a, b, c, d, e, h, i, rfl, rfl⟩
    refine st_freeze 2 0 rfl rfl ?_
    have hbd := allR_len l l.length
    have hbd2 : l.length * (l.length + 1) ≤ 12 * 13 := Nat.mul_le_mul hn (by omega)
    have ones : ∀ x : List D, (x.map fun _ => D.int 1) = (x.map fun _ => (1 : Int)).map D.int := fun x => by
      rw [List.map_map]
      rfl
    refine st_ret (EvN.ev (en_lcF (ds := (allR l l.length).map tripD) (ei_lst (ev_var rfl)) ?_ (fun d => keepB l least (toT d)) id fun n d hd => ?_)) ?_
    · rw [List.length_map]
      omega
    · obtain ⟨one, hone, rfl⟩ := get_trip hd
      refine ⟨_, _, eg_name, by simp, ?_, fun _ => ev_var rfl⟩
      have t1 : ∀ (t : Trip) (g : G) (k : Nat), g[k]? = some (some (tripD t)) → Ev T K (tOp (rIxT K) (tVar k) (tC (.int 0))) g [] (.int t.1) [] := fun t g k h => ev_op (ev_var h) ev_int (od_ixT rfl)
      have t2 : ∀ (t : Trip) (g : G) (k : Nat), g[k]? = some (some (tripD t)) → Ev T K (tOp (rIxT K) (tVar k) (tC (.int 1))) g [] (.int t.2.1) [] := fun t g k h => ev_op (ev_var h) ev_int (od_ixT rfl)
      refine et_of_eq (et_and (et_test (ev_op (t2 one _ 8 rfl) (ev_var rfl) od_I0b)) fun _ => et_test (ev_op (EvN.ev (en_lcF (ds := (allR l l.length).map tripD) (ei_lst (ev_var rfl)) ?_ (fun d => covB one (toT d)) (fun _ => .int 1) fun n d hd => ?_)) (en_lst ea_nil (by simp)).ev (od_eqD vd_f (vd_f (d := .lst ([].map D.int))) ?_ (sh_il [])))) ?_
      · rw [List.length_map]
        omega
      · obtain ⟨other, hoth, rfl⟩ := get_trip hd
        refine ⟨_, _, eg_name, by simp, ?_, fun _ => ev_int⟩
        refine et_of_eq (et_and (et_test (ev_op (ev_var rfl) (ev_var rfl) (od_neD vd_f vd_f (sh_trip _) (sh_trip _)))) fun _ => et_and (et_test (ev_op (t1 other _ 9 rfl) (t1 one _ 8 rfl) od_I0b)) fun _ => et_test (ev_op (ev_op (t1 one _ 8 rfl) (t2 one _ 8 rfl) od_I0i) (ev_op (t1 other _ 9 rfl) (t2 other _ 9 rfl) od_I0i) od_I0b)) ?_
        rw [eq_trip, show toT (tripD other) = other from rfl]
        unfold covB
        simp
      · rw [ones]
        exact sh_il _
      · rw [ones, eq_il, show toT (tripD one) = one from rfl, filt_trip (p := covB one) (fun t => rfl)]
        unfold keepB
        congr 1
        exact decide_eq_decide.mpr (by rw [List.map_eq_nil_iff, List.map_eq_nil_iff])
    · rw [filt_trip (p := keepB l least) (fun t => rfl)]
      simp
      exact ⟨rfl, rfl⟩
end
end Bs
namespace Bs
open DL
def swp (l : List Int) (k : Nat) : List Int := l.take (k - 1) ++ [l.getD k 0, l.getD (k - 1) 0] ++ l.drop (k + 1)
def powR (row : List Int) : Nat → List Int
  | 0 => rng row.length
  | t + 1 => row.map fun b => (powR row t).getD (b - 1).toNat 0
theorem rng_get {n i : Nat} (h : i < n) : (rng n).getD i 0 = ((i + 1 : Nat) : Int) := by
  unfold rng
  rw [List.getD_eq_getElem?_getD, List.getElem?_map, List.getElem?_range h]
  simp
  omega
theorem rng_sorted (n : Nat) : (rng n).Pairwise (· ≤ ·) := by
  unfold rng
  refine List.Pairwise.map _ (fun a b h => ?_) List.pairwise_lt_range
  omega
theorem rng_nodup' (n : Nat) : (rng n).Nodup := by
  unfold rng
  refine List.Pairwise.map _ (fun a b h => ?_) List.nodup_range
  omega
theorem good_of {l : List Int} (h1 : 3 ≤ l.length) (h2 : l.length ≤ 12) (h : l.Perm (rng l.length)) : good l := ⟨h1, h2, (srt_uniq h.symm (rng_sorted _)).symm⟩
theorem good_nodup {l : List Int} (h : good l) : l.Nodup := (good_perm h).nodup_iff.mpr (rng_nodup' _)
theorem bell_back : ∀ k : Nat, k < 12 → SIGNS.cps.toList.getD k 0 ∈ SIGNS.cps.toList ∧ bellOf (SIGNS.cps.toList.getD k 0) = ((k + 1 : Nat) : Int) := by decide +kernel
theorem text_back {l : List Int} (h : good l) : (∀ c ∈ (textOf l).cps.toList, c ∈ SIGNS.cps.toList) ∧ (textOf l).cps.toList.map bellOf = l := by
  have h12 := h.2.1
  have e : (textOf l).cps.toList = l.map bellC := by simp [textOf]
  have hb : ∀ b ∈ l, bellC b ∈ SIGNS.cps.toList ∧ bellOf (bellC b) = b := fun b hb => by
    have hm := (good_mem h).mp hb
    have := bell_back (b - 1).toNat (by omega)
    unfold bellC
    refine ⟨this.1, ?_⟩
    rw [this.2]
    omega
  rw [e]
  constructor
  · intro c hc
    obtain ⟨b, h1, rfl⟩ := List.mem_map.mp hc
    exact (hb b h1).1
  · rw [List.map_map]
    conv => rhs; rw [← List.map_id l]
    exact List.map_congr_left fun b h1 => (hb b h1).2
theorem self_map (a : List Int) : (rng a.length).map (fun i => a.getD (i - 1).toNat 0) = a := by
  apply List.ext_getElem?
  intro i
  unfold rng
  rw [List.map_map, List.getElem?_map]
  by_cases h : i < a.length
  · rw [List.getElem?_range h, List.getElem?_eq_getElem h]
    simp only [Option.map_some, Function.comp]
    rw [show (1 + (i : Int) - 1).toNat = i by omega, List.getD_eq_getElem?_getD, List.getElem?_eq_getElem h]
    rfl
  · rw [List.getElem?_eq_none (by simpa using h), List.getElem?_eq_none (by simpa using h)]
    rfl
theorem idx_map {l : List Int} (h : l.Nodup) : l.map (fun b => ((l.idxOf b : Nat) : Int) + 1) = rng l.length := by
  apply List.ext_getElem?
  intro i
  unfold rng
  rw [List.getElem?_map, List.getElem?_map]
  by_cases hi : i < l.length
  · rw [List.getElem?_range hi, List.getElem?_eq_getElem hi]
    simp only [Option.map_some]
    rw [h.idxOf_getElem i hi]
    congr 1
    omega
  · rw [List.getElem?_eq_none (by simpa using hi), List.getElem?_eq_none (by simpa using hi)]
    rfl
theorem und_len (l : List Int) : (und l).length = l.length := by simp [und, rng_len]
theorem und_good {l : List Int} (h : good l) : good (und l) := by
  refine good_of (by rw [und_len]; exact h.1) (by rw [und_len]; exact h.2.1) ?_
  rw [und_len]
  unfold und
  have p : ((rng l.length).map fun b => ((l.idxOf b : Nat) : Int) + 1).Perm (l.map fun b => ((l.idxOf b : Nat) : Int) + 1) := (good_perm h).symm.map _
  rw [idx_map (good_nodup h)] at p
  exact p
theorem perm_good {a b : List Int} (ha : good a) (hb : good b) (hl : a.length = b.length) : good (perm a b) := by
  have e : (perm a b).length = b.length := by simp [perm]
  refine good_of (by rw [e]; exact hb.1) (by rw [e]; exact hb.2.1) ?_
  rw [e]
  unfold perm
  have p : (b.map fun i => a.getD (i - 1).toNat 0).Perm ((rng b.length).map fun i => a.getD (i - 1).toNat 0) := (good_perm hb).map _
  rw [← hl, self_map] at p
  rw [← hl]
  exact p.trans (good_perm ha)
theorem getD_idx {l : List Int} {b : Int} (h : b ∈ l) : l.getD (l.idxOf b) 0 = b := by
  have hl : l.idxOf b < l.length := List.idxOf_lt_length_iff.mpr h
  rw [List.getD_eq_getElem?_getD, List.getElem?_eq_getElem hl, List.getElem_idxOf hl]
  rfl
theorem perm_und {l : List Int} (h : good l) : perm l (und l) = rng l.length := by
  unfold perm und
  rw [List.map_map]
  conv => rhs; rw [← List.map_id (rng l.length)]
  refine List.map_congr_left fun b hb => ?_
  have hm : b ∈ l := (good_perm h).mem_iff.mpr hb
  show l.getD (((l.idxOf b : Nat) : Int) + 1 - 1).toNat 0 = b
  rw [show (((l.idxOf b : Nat) : Int) + 1 - 1).toNat = l.idxOf b by omega]
  exact getD_idx hm
theorem und_perm {l : List Int} (h : good l) : perm (und l) l = rng l.length := by
  rw [← idx_map (good_nodup h)]
  unfold perm
  refine List.map_congr_left fun i hi => ?_
  have hm := (good_mem h).mp hi
  have hlt : (i - 1).toNat < l.length := by omega
  unfold und
  rw [List.getD_eq_getElem?_getD, List.getElem?_map]
  have e : (rng l.length)[(i - 1).toNat]? = some i := by
    unfold rng
    rw [List.getElem?_map, List.getElem?_range hlt]
    simp
    omega
  rw [e]
  rfl
theorem rev_good {n : Nat} (h1 : 3 ≤ n) (h2 : n ≤ 12) : good (rng n).reverse := by
  refine good_of (by rw [List.length_reverse, rng_len]; exact h1) (by rw [List.length_reverse, rng_len]; exact h2) ?_
  rw [List.length_reverse, rng_len]
  exact List.reverse_perm _
theorem idx_stop {lf : List Int} {n i : Nat} (hp : lf.Perm (rng n)) (hi : i < n) (h : lf.idxOf ((i + 1 : Nat) : Int) = i) : lf.getD i 0 = ((i + 1 : Nat) : Int) := by
  have hm : ((i + 1 : Nat) : Int) ∈ lf := hp.mem_iff.mpr (rng_mem.mpr ⟨by omega, by omega⟩)
  have := getD_idx hm
  rw [h] at this
  exact this
theorem pre_done {lf : List Int} {n : Nat} (hp : lf.Perm (rng n)) (h : ∀ j : Nat, j < n → lf.getD j 0 = ((j + 1 : Nat) : Int)) : lf = rng n := by
  have hl : lf.length = n := by rw [hp.length_eq, rng_len]
  apply List.ext_getElem
  · rw [hl, rng_len]
  intro i h1 h2
  have e1 := h i (by omega)
  have e2 := rng_get (n := n) (i := i) (by omega)
  rw [List.getD_eq_getElem?_getD, List.getElem?_eq_getElem h1] at e1
  rw [List.getD_eq_getElem?_getD, List.getElem?_eq_getElem h2] at e2
  simp at e1 e2
  rw [e1, e2]
end Bs
namespace Bs
open DL
/-! inversions -/
def lessN (a : Int) (l : List Int) : Nat := (l.filter fun b => decide (b < a)).length
def inv : List Int → Nat
  | [] => 0
  | a :: t => lessN a t + inv t
theorem invN_cons (a : Int) (t : List Int) : ∀ n, invN (a :: t) (n + 1) = lessN a t + invN t n
  | 0 => by
    simp [invN, lowN, lessN]
  | n + 1 => by
    have ih := invN_cons a t n
    show invN (a :: t) (n + 1) + lowN (a :: t) (n + 1) = lessN a t + (invN t n + lowN t n)
    rw [ih]
    have e : lowN (a :: t) (n + 1) = lowN t n := by
      unfold lowN
      simp [List.getD_eq_getElem?_getD]
    rw [e]
    omega
theorem invN_inv : ∀ l : List Int, invN l l.length = inv l
  | [] => rfl
  | a :: t => by
    rw [List.length_cons, invN_cons, invN_inv t]
    rfl
theorem lessN_perm (a : Int) {l m : List Int} (p : l.Perm m) : lessN a l = lessN a m := (p.filter _).length_eq
theorem lessN_app (a : Int) (l m : List Int) : lessN a (l ++ m) = lessN a l + lessN a m := by
  unfold lessN
  rw [List.filter_append, List.length_append]
theorem inv_swap2 {a b : Int} (h : a ≠ b) (y : List Int) : (inv (a :: b :: y) + 1) % 2 = inv (b :: a :: y) % 2 := by
  have e1 : lessN a (b :: y) = (if b < a then 1 else 0) + lessN a y := by
    unfold lessN
    rw [List.filter_cons]
    by_cases z : b < a
    · simp [z]; omega
    · simp [z]
  have e2 : lessN b (a :: y) = (if a < b then 1 else 0) + lessN b y := by
    unfold lessN
    rw [List.filter_cons]
    by_cases z : a < b
    · simp [z]; omega
    · simp [z]
  show (lessN a (b :: y) + (lessN b y + inv y) + 1) % 2 = (lessN b (a :: y) + (lessN a y + inv y)) % 2
  rw [e1, e2]
  by_cases z : b < a
  · rw [if_pos z, if_neg (by omega)]; omega
  · rw [if_neg z, if_pos (by omega)]; omega
theorem inv_mid {a b : Int} (h : a ≠ b) : ∀ (x y : List Int), (inv (x ++ a :: b :: y) + 1) % 2 = inv (x ++ b :: a :: y) % 2
  | [], y => inv_swap2 h y
  | c :: x, y => by
    have ih := inv_mid h x y
    show (lessN c (x ++ a :: b :: y) + inv (x ++ a :: b :: y) + 1) % 2 = (lessN c (x ++ b :: a :: y) + inv (x ++ b :: a :: y)) % 2
    have p : (x ++ a :: b :: y).Perm (x ++ b :: a :: y) := (List.Perm.swap b a y).append_left x
    rw [lessN_perm c p]
    omega
theorem swp_split {l : List Int} {k : Nat} (h1 : 1 ≤ k) (h2 : k < l.length) : l = l.take (k - 1) ++ l.getD (k - 1) 0 :: l.getD k 0 :: l.drop (k + 1) ∧ swp l k = l.take (k - 1) ++ l.getD k 0 :: l.getD (k - 1) 0 :: l.drop (k + 1) := by
  constructor
  · have e1 : l.drop (k - 1) = l.getD (k - 1) 0 :: l.drop k := by
      rw [List.drop_eq_getElem_cons (by omega : k - 1 < l.length), List.getD_eq_getElem?_getD, List.getElem?_eq_getElem (by omega)]
      rw [show k - 1 + 1 = k by omega]
      rfl
    have e2 : l.drop k = l.getD k 0 :: l.drop (k + 1) := by
      rw [List.drop_eq_getElem_cons h2, List.getD_eq_getElem?_getD, List.getElem?_eq_getElem h2]
      rfl
    conv => lhs; rw [← List.take_append_drop (k - 1) l, e1, e2]
  · unfold swp
    simp
theorem swp_perm {l : List Int} {k : Nat} (h1 : 1 ≤ k) (h2 : k < l.length) : (swp l k).Perm l := by
  obtain ⟨e1, e2⟩ := swp_split h1 h2
  rw [e2]
  conv => rhs; rw [e1]
  exact (List.Perm.swap _ _ _).append_left _
theorem inv_swp {l : List Int} (hn : l.Nodup) {k : Nat} (h1 : 1 ≤ k) (h2 : k < l.length) : (invN (swp l k) l.length + 1) % 2 = invN l l.length % 2 := by
  obtain ⟨e1, e2⟩ := swp_split h1 h2
  have hl : l.length = (swp l k).length := (swp_perm h1 h2).length_eq.symm
  have hne : l.getD k 0 ≠ l.getD (k - 1) 0 := by
    rw [List.getD_eq_getElem?_getD, List.getD_eq_getElem?_getD, List.getElem?_eq_getElem h2, List.getElem?_eq_getElem (by omega : k - 1 < l.length)]
    intro z
    have z : l[k] = l[k - 1] := z
    have := (List.getElem_inj hn).mp z
    omega
  rw [invN_inv l, hl, invN_inv, e2]
  conv => rhs; rw [e1]
  exact inv_mid hne _ _
theorem inv_rng (n : Nat) : invN (rng n) n = 0 := by
  have key : ∀ l : List Int, l.Pairwise (· ≤ ·) → inv l = 0 := by
    intro l h
    induction h with
    | nil => rfl
    | cons a t ih =>
      rename_i x xs
      show lessN x xs + inv xs = 0
      have : lessN x xs = 0 := by
        unfold lessN
        rw [List.length_eq_zero_iff, List.filter_eq_nil_iff]
        intro b hb
        have := a b hb
        simp
        omega
      omega
  have e := invN_inv (rng n)
  rw [rng_len] at e
  rw [e, key _ (rng_sorted n)]
theorem inv_map_perm {f : Int → Int} {l m : List Int} (p : l.Perm m) : l.Nodup → (∀ x ∈ l, ∀ y ∈ l, f x = f y → x = y) → (inv (l.map f) + inv l) % 2 = (inv (m.map f) + inv m) % 2 := by
  induction p with
  | nil => intro _ _; rfl
  | cons x p ih =>
    rename_i l1 l2
    intro hn hf
    have ih := ih (List.nodup_cons.mp hn).2 fun a ha b hb => hf a (by simp [ha]) b (by simp [hb])
    show (lessN (f x) (l1.map f) + inv (l1.map f) + (lessN x l1 + inv l1)) % 2 = (lessN (f x) (l2.map f) + inv (l2.map f) + (lessN x l2 + inv l2)) % 2
    rw [lessN_perm _ (p.map f), lessN_perm _ p]
    omega
  | swap x y l1 =>
    intro hn hf
    have hne : y ≠ x := by
      have := (List.nodup_cons.mp hn).1
      intro z
      exact this (by simp [z])
    have hfe : f y ≠ f x := fun z => hne (hf y (by simp) x (by simp) z)
    have h1 := inv_swap2 hne l1
    have h2 := inv_swap2 hfe (l1.map f)
    simp only [List.map_cons] at *
    omega
  | trans p1 p2 ih1 ih2 =>
    intro hn hf
    rw [ih1 hn hf, ih2 (p1.nodup_iff.mp hn) fun a ha b hb => hf a (p1.mem_iff.mpr ha) b (p1.mem_iff.mpr hb)]
theorem oddV_inv (l : List Int) : oddV l = decide (inv l % 2 = 1) := by
  unfold oddV
  rw [invN_inv]
  exact decide_eq_decide.mpr (by omega)
theorem odd_perm {a b : List Int} (ha : good a) (hb : good b) (hl : a.length = b.length) : oddV (perm a b) = (oddV a != oddV b) := by
  have inj : ∀ x ∈ b, ∀ y ∈ b, a.getD (x - 1).toNat 0 = a.getD (y - 1).toNat 0 → x = y := fun x hx y hy e => by
    have h1 := (good_mem hb).mp hx
    have h2 := (good_mem hb).mp hy
    rw [List.getD_eq_getElem?_getD, List.getD_eq_getElem?_getD, List.getElem?_eq_getElem (by omega : (x - 1).toNat < a.length), List.getElem?_eq_getElem (by omega : (y - 1).toNat < a.length)] at e
    have := (List.getElem_inj (good_nodup ha)).mp e
    omega
  have k := inv_map_perm (f := fun i => a.getD (i - 1).toNat 0) (good_perm hb) (good_nodup hb) inj
  rw [← hl, self_map] at k
  have k0 := inv_rng a.length
  have k1 := invN_inv (rng a.length)
  rw [rng_len, k0] at k1
  rw [oddV_inv, oddV_inv, oddV_inv]
  show decide (inv (b.map fun i => a.getD (i - 1).toNat 0) % 2 = 1) = _
  generalize inv (b.map fun i => a.getD (i - 1).toNat 0) = u at k
  by_cases h1 : inv a % 2 = 1 <;> by_cases h2 : inv b % 2 = 1 <;> simp [h1, h2] <;> omega
theorem swp_ok {lf : List Int} {n i : Nat} (hp : lf.Perm (rng n)) (hi : i < n) (hpre : ∀ j : Nat, j < i → lf.getD j 0 = ((j + 1 : Nat) : Int)) (hk : lf.idxOf ((i + 1 : Nat) : Int) ≠ i) : i < lf.idxOf ((i + 1 : Nat) : Int) ∧ lf.idxOf ((i + 1 : Nat) : Int) < n ∧ (swp lf (lf.idxOf ((i + 1 : Nat) : Int))).Perm (rng n) ∧ (∀ j : Nat, j < i → (swp lf (lf.idxOf ((i + 1 : Nat) : Int))).getD j 0 = ((j + 1 : Nat) : Int)) ∧
    (swp lf (lf.idxOf ((i + 1 : Nat) : Int))).idxOf ((i + 1 : Nat) : Int) = lf.idxOf ((i + 1 : Nat) : Int) - 1 ∧ (invN (swp lf (lf.idxOf ((i + 1 : Nat) : Int))) n + 1) % 2 = invN lf n % 2 := by
  have hm : ((i + 1 : Nat) : Int) ∈ lf := hp.mem_iff.mpr (rng_mem.mpr ⟨by omega, by omega⟩)
  have hlen : lf.length = n := by rw [hp.length_eq, rng_len]
  have hnd : lf.Nodup := hp.nodup_iff.mpr (rng_nodup' n)
  have hb := getD_idx hm
  have hkl : lf.idxOf ((i + 1 : Nat) : Int) < lf.length := List.idxOf_lt_length_iff.mpr hm
  have hgt : i < lf.idxOf ((i + 1 : Nat) : Int) := by
    rcases Nat.lt_or_ge i (lf.idxOf ((i + 1 : Nat) : Int)) with z | z
    · exact z
    · have := hpre (lf.idxOf ((i + 1 : Nat) : Int)) (by omega)
      rw [hb] at this
      omega
  generalize lf.idxOf ((i + 1 : Nat) : Int) = k at *
  have h1 : 1 ≤ k := by omega
  obtain ⟨e1, e2⟩ := swp_split h1 hkl
  refine ⟨hgt, by omega, (swp_perm h1 hkl).trans hp, fun j hj => ?_, ?_, ?_⟩
  · rw [← hpre j hj, e2, List.getD_eq_getElem?_getD, List.getElem?_append_left (by simp; omega), List.getElem?_take_of_lt (by omega), List.getD_eq_getElem?_getD]
  · have hnd2 : (swp lf k).Nodup := (swp_perm h1 hkl).nodup_iff.mpr hnd
    have hl2 : k - 1 < (swp lf k).length := by rw [(swp_perm h1 hkl).length_eq]; omega
    have e3 : (swp lf k)[k - 1] = ((i + 1 : Nat) : Int) := by
      have : (swp lf k)[k - 1]? = some ((i + 1 : Nat) : Int) := by
        rw [e2, List.getElem?_append_right (by simp; omega)]
        have : k - 1 - (lf.take (k - 1)).length = 0 := by simp; omega
        rw [this, hb]
        rfl
      rw [List.getElem?_eq_getElem hl2] at this
      exact Option.some.inj this
    rw [← e3]
    exact hnd2.idxOf_getElem (k - 1) hl2
  · have := inv_swp hnd h1 hkl
    rw [hlen] at this
    exact this
end Bs
namespace Bs
open DL
/-! runs -/
theorem runLen_spec {l : List Int} {place : Nat} {step : Int} : ∀ (n long : Nat), 1 ≤ long → place + long ≤ l.length → l.length ≤ place + long + n →
    (∀ j, long ≤ j → j < runLen l place step n long → rstep l (place + j - 1) = step) ∧ (place + runLen l place step n long < l.length → rstep l (place + runLen l place step n long - 1) ≠ step)
  | 0, long, h1, h2, h3 => by
    refine ⟨fun j a b => ?_, fun a => ?_⟩
    · have b : j < long := b
      omega
    · have a : place + long < l.length := a
      omega
  | n + 1, long, h1, h2, h3 => by
    have er : ∀ k, 1 ≤ k → l.getD (place + k) 0 - l.getD (place + k - 1) 0 = rstep l (place + k - 1) := fun k hk => by
      unfold rstep
      rw [show place + k - 1 + 1 = place + k by omega]
    by_cases c : place + long < l.length ∧ l.getD (place + long) 0 - l.getD (place + long - 1) 0 = step
    · have e : runLen l place step (n + 1) long = runLen l place step n (long + 1) := by
        conv => lhs; unfold runLen
        rw [if_pos c]
      rw [e]
      obtain ⟨i1, i2⟩ := runLen_spec (l := l) (place := place) (step := step) n (long + 1) (by omega) (by omega) (by omega)
      refine ⟨fun j a b => ?_, i2⟩
      by_cases hj : j = long
      · subst hj
        rw [← er j h1]
        exact c.2
      · exact i1 j (by omega) b
    · have e : runLen l place step (n + 1) long = long := by
        conv => lhs; unfold runLen
        rw [if_neg c]
      rw [e]
      refine ⟨fun j a b => by omega, fun a z => c ⟨a, ?_⟩⟩
      rw [er long h1]
      exact z
theorem rlong_spec {l : List Int} {s : Nat} (h : s + 1 < l.length) : (∀ i, i + 1 < rlong l s → rstep l (s + i) = rstep l s) ∧ (s + rlong l s < l.length → rstep l (s + rlong l s - 1) ≠ rstep l s) := by
  obtain ⟨a, b⟩ := runLen_spec (l := l) (place := s) (step := rstep l s) l.length 1 (Nat.le_refl _) (by omega) (by omega)
  refine ⟨fun i hi => ?_, b⟩
  have := a (i + 1) (by omega) hi
  rw [show s + (i + 1) - 1 = s + i by omega] at this
  exact this
abbrev pm (x : Int) : Prop := x = 1 ∨ x = -1
/-- the pieces that keep one step -/
def Val (l : List Int) (a m : Nat) : Prop := 2 ≤ m ∧ a + m ≤ l.length ∧ pm (rstep l a) ∧ ∀ i, i + 1 < m → rstep l (a + i) = rstep l a
theorem val_iff {l : List Int} {a m : Nat} (h : a + 1 < l.length) : Val l a m ↔ 2 ≤ m ∧ m ≤ rlong l a ∧ pm (rstep l a) := by
  have hr := rlong_ge h
  obtain ⟨s1, s2⟩ := rlong_spec h
  constructor
  · rintro ⟨h1, h2, h3, h4⟩
    refine ⟨h1, ?_, h3⟩
    rcases Nat.lt_or_ge (rlong l a) m with z | z
    · exfalso
      have := h4 (rlong l a - 1) (by omega)
      rw [show a + (rlong l a - 1) = a + rlong l a - 1 by omega] at this
      exact s2 (by omega) this
    · exact z
  · rintro ⟨h1, h2, h3⟩
    exact ⟨h1, by omega, h3, fun i hi => s1 i (by omega)⟩
theorem stepsV_eq {l : List Int} {s j : Nat} (h : s + 2 + j ≤ l.length) : stepsV l s (s + 2 + j) = (List.range (j + 1)).map fun i => rstep l (s + i) := by
  apply List.ext_getElem?
  intro i
  by_cases hi : i < j + 1
  · unfold stepsV
    rw [List.getElem?_zipWith, List.getElem?_map, List.getElem?_range hi, List.getElem?_take_of_lt (by omega), List.getElem?_take_of_lt (by omega), List.getElem?_drop, List.getElem?_drop, List.getElem?_eq_getElem (by omega : s + i < l.length), List.getElem?_eq_getElem (by omega : s + 1 + i < l.length)]
    show some (l[s + 1 + i] - l[s + i]) = some (rstep l (s + i))
    unfold rstep
    rw [List.getD_eq_getElem?_getD, List.getD_eq_getElem?_getD, List.getElem?_eq_getElem (by omega : s + i < l.length), List.getElem?_eq_getElem (by omega : s + i + 1 < l.length)]
    simp [show s + 1 + i = s + i + 1 by omega]
  · have e : (stepsV l s (s + 2 + j)).length ≤ i := by
      unfold stepsV
      rw [List.length_zipWith, List.length_take, List.length_take, List.length_drop, List.length_drop]
      omega
    rw [List.getElem?_eq_none e, List.getElem?_eq_none (by simpa using hi)]
theorem fm_congr {α β : Type} {f g : α → Option β} : ∀ {xs : List α}, (∀ x ∈ xs, f x = g x) → xs.filterMap f = xs.filterMap g
  | [], _ => rfl
  | x :: xs, h => by
    rw [List.filterMap_cons, List.filterMap_cons, h x (by simp), fm_congr (xs := xs) fun y hy => h y (by simp [hy])]
theorem fl_congr {α β : Type} {f g : α → List β} : ∀ {xs : List α}, (∀ x ∈ xs, f x = g x) → xs.flatMap f = xs.flatMap g
  | [], _ => rfl
  | x :: xs, h => by
    rw [List.flatMap_cons, List.flatMap_cons, h x (by simp), fl_congr (xs := xs) fun y hy => h y (by simp [hy])]
theorem same_iff {l : List Int} {s j : Nat} (h : s + 2 + j ≤ l.length) : allSame (stepsV l s (s + 2 + j)) = true ↔ Val l s (2 + j) := by
  have key : ∀ v : Int, stepsV l s (s + 2 + j) = List.replicate (stepsV l s (s + 2 + j)).length v ↔ ∀ i, i < j + 1 → rstep l (s + i) = v := fun v => by
    rw [stepsV_eq h, List.eq_replicate_iff]
    simp only [List.length_map, List.length_range, true_and, List.mem_map, List.mem_range]
    constructor
    · intro q i hi
      exact q _ ⟨i, hi, rfl⟩
    · rintro q b ⟨i, hi, rfl⟩
      exact q i hi
  unfold allSame
  rw [Bool.or_eq_true, decide_eq_true_eq, decide_eq_true_eq, key, key]
  constructor
  · rintro (q | q)
    · have q0 := q 0 (by omega)
      exact ⟨by omega, by omega, Or.inl q0, fun i hi => by rw [q i (by omega)]; exact q0.symm⟩
    · have q0 := q 0 (by omega)
      exact ⟨by omega, by omega, Or.inr q0, fun i hi => by rw [q i (by omega)]; exact q0.symm⟩
  · rintro ⟨_, _, q1, q2⟩
    rcases q1 with z | z
    · exact Or.inl fun i hi => by rw [q2 i (by omega), z]
    · exact Or.inr fun i hi => by rw [q2 i (by omega), z]
theorem steps0 {l : List Int} {s j : Nat} (h : s + 2 + j ≤ l.length) : (stepsV l s (s + 2 + j)).getD 0 0 = rstep l s := by
  rw [stepsV_eq h, List.getD_eq_getElem?_getD, List.getElem?_map, List.getElem?_range (by omega)]
  rfl
abbrev tripV (l : List Int) (a m : Nat) : Trip := ((a : Int), (m : Int), rstep l a)
theorem mem_allR {l : List Int} {t : Trip} : t ∈ allR l l.length ↔ ∃ a m, Val l a m ∧ t = tripV l a m := by
  unfold allR innR
  rw [List.mem_flatMap]
  constructor
  · rintro ⟨s, hs, h⟩
    obtain ⟨j, hj, e⟩ := List.mem_filterMap.mp h
    have hs := List.mem_range.mp hs
    have hj := List.mem_range.mp hj
    have hle : s + 2 + j ≤ l.length := by omega
    split at e
    · rename_i c
      refine ⟨s, 2 + j, (same_iff hle).mp c, ?_⟩
      rw [steps0 hle] at e
      exact (Option.some.inj e).symm
    · cases e
  · rintro ⟨a, m, v, rfl⟩
    have v' := v
    obtain ⟨v1, v2, v3, v4⟩ := v'
    refine ⟨a, List.mem_range.mpr (by omega), List.mem_filterMap.mpr ⟨m - 2, List.mem_range.mpr (by omega), ?_⟩⟩
    have hle : a + 2 + (m - 2) ≤ l.length := by omega
    have e : 2 + (m - 2) = m := by omega
    rw [if_pos ((same_iff hle).mpr (by rw [e]; exact v)), steps0 hle, e]
theorem cov_iff {l : List Int} {s m : Nat} (v : Val l s m) : (allR l l.length).filter (covB (tripV l s m)) = [] ↔ ¬ (m < rlong l s) ∧ (s = 0 ∨ rstep l (s - 1) ≠ rstep l s) := by
  have hs1 : s + 1 < l.length := by have := v.1; have := v.2.1; omega
  have hr := rlong_ge hs1
  rw [List.filter_eq_nil_iff]
  constructor
  · intro h
    constructor
    · intro hlt
      have hv : Val l s (rlong l s) := (val_iff hs1).mpr ⟨hr.1, Nat.le_refl _, v.2.2.1⟩
      have := h _ (mem_allR.mpr ⟨s, rlong l s, hv, rfl⟩)
      apply this
      unfold covB
      simp only [Bool.and_eq_true, decide_eq_true_eq]
      refine ⟨fun z => ?_, by simp, by simp <;> omega⟩
      simp at z
      omega
    · by_cases h0 : s = 0
      · exact Or.inl h0
      · refine Or.inr fun he => ?_
        obtain ⟨s1, s2⟩ := rlong_spec hs1
        have hv : Val l (s - 1) (rlong l s + 1) := by
          refine ⟨by omega, by omega, by rw [he]; exact v.2.2.1, fun i hi => ?_⟩
          cases i with
          | zero => rfl
          | succ i =>
            rw [show s - 1 + (i + 1) = s + i by omega, he]
            exact s1 i (by omega)
        have := h _ (mem_allR.mpr ⟨s - 1, rlong l s + 1, hv, rfl⟩)
        apply this
        have hm := ((val_iff hs1).mp v).2.1
        unfold covB
        simp only [Bool.and_eq_true, decide_eq_true_eq]
        refine ⟨fun z => ?_, by simp <;> omega, by simp <;> omega⟩
        simp at z
        omega
  · rintro ⟨h1, h2⟩ t ht hc
    obtain ⟨a, m', v', rfl⟩ := mem_allR.mp ht
    unfold covB at hc
    simp only [Bool.and_eq_true, decide_eq_true_eq] at hc
    obtain ⟨c1, c2, c3⟩ := hc
    have c2 : (a : Int) ≤ (s : Int) := c2
    have c3 : (s : Int) + (m : Int) ≤ (a : Int) + (m' : Int) := c3
    have hm := ((val_iff hs1).mp v)
    by_cases has : a = s
    · subst has
      have hm' := ((val_iff hs1).mp v').2.1
      apply c1
      have : m' = m := by omega
      rw [this]
    · rcases h2 with z | z
      · omega
      · apply z
        have q1 := v'.2.2.2 (s - 1 - a) (by have := v.1; omega)
        have q2 := v'.2.2.2 (s - a) (by have := v.1; omega)
        rw [show a + (s - 1 - a) = s - 1 by omega] at q1
        rw [show a + (s - a) = s by omega] at q2
        rw [q1, q2]
def cC (l : List Int) (least : Int) (s : Nat) : Prop := s + 1 < l.length ∧ pm (rstep l s) ∧ (s = 0 ∨ rstep l (s - 1) ≠ rstep l s) ∧ least ≤ (rlong l s : Int)
instance (l : List Int) (least : Int) (s : Nat) : Decidable (cC l least s) := by unfold cC; exact inferInstance
def cT (l : List Int) (least : Int) (s : Nat) : List Trip := if cC l least s then [tripV l s (rlong l s)] else []
theorem range_one {α : Type} (v : α) (j0 : Nat) (c : Prop) [Decidable c] : ∀ M, (List.range M).filterMap (fun j => if j = j0 ∧ c then some v else none) = if j0 < M ∧ c then [v] else []
  | 0 => by simp
  | M + 1 => by
    rw [List.range_succ, List.filterMap_append, range_one v j0 c M]
    by_cases hc : c
    · by_cases h1 : j0 < M
      · have : ¬ M = j0 := by omega
        simp [hc, h1, this]
        omega
      · by_cases h2 : M = j0
        · simp [hc, h2]
        · have : ¬ j0 < M + 1 := by omega
          simp [hc, h1, h2, this]
    · simp [hc]
theorem inn_keep {l : List Int} {least : Int} {s : Nat} (hs : s < l.length) (h2 : 2 ≤ least) : (innR l s (l.length + 1 - (s + 2))).filter (keepB l least) = cT l least s := by
  unfold innR
  rw [List.filter_filterMap]
  have e : ∀ j ∈ List.range (l.length + 1 - (s + 2)), (Option.filter (keepB l least) (if allSame (stepsV l s (s + 2 + j)) then some ((s : Int), ((2 + j : Nat) : Int), (stepsV l s (s + 2 + j)).getD 0 0) else none)) = if j = rlong l s - 2 ∧ cC l least s then some (tripV l s (rlong l s)) else none := by
    intro j hj
    have hj := List.mem_range.mp hj
    have hle : s + 2 + j ≤ l.length := by omega
    have hs1 : s + 1 < l.length := by omega
    have hr := rlong_ge hs1
    by_cases c : allSame (stepsV l s (s + 2 + j)) = true
    · have v := (same_iff hle).mp c
      have hv := (val_iff hs1).mp v
      rw [if_pos c, steps0 hle]
      have ek : keepB l least ((s : Int), ((2 + j : Nat) : Int), rstep l s) = decide (least ≤ ((2 + j : Nat) : Int) ∧ (¬ (2 + j < rlong l s) ∧ (s = 0 ∨ rstep l (s - 1) ≠ rstep l s))) := by
        unfold keepB
        rw [Bool.eq_iff_iff, Bool.and_eq_true, decide_eq_true_eq, decide_eq_true_eq, decide_eq_true_eq]
        exact and_congr Iff.rfl (cov_iff v)
      show (if keepB l least _ then some _ else none) = _
      rw [ek]
      by_cases d : least ≤ ((2 + j : Nat) : Int) ∧ (¬ (2 + j < rlong l s) ∧ (s = 0 ∨ rstep l (s - 1) ≠ rstep l s))
      · have hj2 : 2 + j = rlong l s := by have := hv.2.1; omega
        rw [if_pos (by simpa using d), if_pos ⟨by omega, hs1, hv.2.2, d.2.2, by rw [← hj2]; exact d.1⟩]
        rw [hj2]
      · rw [if_neg (by simpa using d), if_neg]
        rintro ⟨e1, _, _, e2, e3⟩
        have hj2 : 2 + j = rlong l s := by omega
        exact d ⟨by rw [hj2]; exact e3, by omega, e2⟩
    · rw [if_neg c, if_neg]
      · rfl
      · rintro ⟨e1, _, e2, _, _⟩
        exact c ((same_iff hle).mpr ((val_iff hs1).mpr ⟨by omega, by omega, e2⟩))
  rw [fm_congr e, range_one]
  unfold cT
  by_cases hc : cC l least s
  · have hr := rlong_ge hc.1
    rw [if_pos hc, if_pos ⟨by omega, hc⟩]
  · rw [if_neg hc, if_neg fun z => hc z.2]
def cF (l : List Int) (least : Int) : Nat → Nat → List Trip
  | 0, _ => []
  | n + 1, p => cT l least p ++ cF l least n (p + 1)
theorem cT_out {l : List Int} {least : Int} {p : Nat} (h : l.length ≤ p + 1) : cT l least p = [] := if_neg fun z => by have := z.1; omega
theorem cF_out {l : List Int} {least : Int} : ∀ (n p : Nat), l.length ≤ p + 1 → cF l least n p = []
  | 0, _, _ => rfl
  | n + 1, p, h => by
    show cT l least p ++ cF l least n (p + 1) = []
    rw [cT_out h, cF_out n (p + 1) (by omega)]
    rfl
theorem cF_skip {l : List Int} {least : Int} : ∀ (d n p : Nat), l.length ≤ p + n → (∀ s, p ≤ s → s < p + d → cT l least s = []) → ∀ m, l.length ≤ p + d + m → cF l least n p = cF l least m (p + d)
  | 0, n, p, h, _, m, hm => by
    induction n generalizing p m with
    | zero => rw [cF_out m _ (by omega)]; rfl
    | succ n ih =>
      cases m with
      | zero => rw [cF_out (n + 1) _ (by omega)]; rfl
      | succ m =>
        show cT l least p ++ cF l least n (p + 1) = cT l least p ++ cF l least m (p + 1)
        rw [ih (p + 1) (by omega) (fun s a b => by omega) m (by omega)]
  | d + 1, n, p, h, hs, m, hm => by
    cases n with
    | zero => rw [cF_out m _ (by omega)]; rfl
    | succ n =>
      show cT l least p ++ cF l least n (p + 1) = _
      rw [hs p (Nat.le_refl _) (by omega)]
      have := cF_skip d n (p + 1) (by omega) (fun s a b => hs s (by omega) (by omega)) m (by omega)
      rw [show p + (d + 1) = p + 1 + d by omega]
      exact this
theorem runs_cF {l : List Int} {least : Int} : ∀ (n p : Nat), l.length ≤ p + n → (p = 0 ∨ ¬ pm (rstep l p) ∨ rstep l (p - 1) ≠ rstep l p ∨ l.length ≤ p + 1) → runsF l least n p = cF l least n p
  | 0, _, _, _ => rfl
  | n + 1, p, h, hp => by
    unfold runsF
    by_cases hl : p + 1 < l.length
    · rw [if_pos hl]
      have hr := rlong_ge hl
      obtain ⟨s1, s2⟩ := rlong_spec hl
      show _ = cT l least p ++ cF l least n (p + 1)
      by_cases hs : rstep l p = 1 ∨ rstep l p = -1
      · rw [if_pos hs]
        have e1 : (if least ≤ (rlong l p : Int) then [((p : Int), (rlong l p : Int), rstep l p)] else []) = cT l least p := by
          unfold cT
          by_cases hle : least ≤ (rlong l p : Int)
          · rw [if_pos hle, if_pos]
            refine ⟨hl, hs, ?_, hle⟩
            rcases hp with z | z | z | z
            · exact Or.inl z
            · exact (z hs).elim
            · exact Or.inr z
            · omega
          · rw [if_neg hle, if_neg fun z => hle z.2.2.2]
        rw [e1]
        have e2 : runsF l least n (p + rlong l p - 1) = cF l least n (p + rlong l p - 1) := by
          refine runs_cF n _ (by omega) ?_
          by_cases hend : p + rlong l p < l.length
          · refine Or.inr (Or.inr (Or.inl ?_))
            have q := s1 (rlong l p - 2) (by omega)
            rw [show p + (rlong l p - 2) = p + rlong l p - 1 - 1 by omega] at q
            rw [q]
            exact fun z => s2 hend z.symm
          · exact Or.inr (Or.inr (Or.inr (by omega)))
        rw [e2]
        have e3 := cF_skip (l := l) (least := least) (rlong l p - 2) n (p + 1) (by omega) (fun s a b => by
          refine if_neg ?_
          rintro ⟨_, _, z, _⟩
          rcases z with z | z
          · omega
          · have q1 := s1 (s - p) (by omega)
            have q2 := s1 (s - 1 - p) (by omega)
            rw [show p + (s - p) = s by omega] at q1
            rw [show p + (s - 1 - p) = s - 1 by omega] at q2
            exact z (by rw [q1, q2])) n (by omega)
        rw [e3, show p + 1 + (rlong l p - 2) = p + rlong l p - 1 by omega]
      · rw [if_neg hs]
        have e1 : cT l least p = [] := if_neg fun z => hs z.2.1
        rw [e1]
        refine runs_cF n (p + 1) (by omega) ?_
        by_cases hn : pm (rstep l (p + 1))
        · refine Or.inr (Or.inr (Or.inl ?_))
          rw [show p + 1 - 1 = p by omega]
          exact fun z => hs (by rw [z]; exact hn)
        · exact Or.inr (Or.inl hn)
    · rw [if_neg hl]
      exact (cF_out (n + 1) p (by omega)).symm
theorem cF_range {l : List Int} {least : Int} : ∀ (n p : Nat), cF l least n p = (List.range n).flatMap fun i => cT l least (p + i)
  | 0, _ => rfl
  | n + 1, p => by
    show cT l least p ++ cF l least n (p + 1) = _
    rw [cF_range n (p + 1), List.range_succ_eq_map, List.flatMap_cons, List.flatMap_map]
    congr 1
    refine fl_congr fun i _ => ?_
    rw [show p + 1 + i = p + (i + 1) by omega]
theorem runs_eq {l : List Int} (h : good l) {least : Int} (h2 : 2 ≤ least) : runsV l least = lrunsV l least := by
  unfold runsV lrunsV
  rw [runs_cF l.length 0 (by omega) (Or.inl rfl), cF_range]
  unfold allR
  rw [List.filter_flatMap]
  refine fl_congr fun s hs => ?_
  rw [Nat.zero_add]
  exact (inn_keep (List.mem_range.mp hs) h2).symm
end Bs
namespace Bs
open DL
/-! cycles -/
def it (s : Int → Int) : Nat → Int → Int
  | 0, b => b
  | t + 1, b => it s t (s b)
theorem it_succ (s : Int → Int) : ∀ t b, it s (t + 1) b = s (it s t b)
  | 0, b => rfl
  | t + 1, b => it_succ s t (s b)
theorem it_add (s : Int → Int) : ∀ t u b, it s (t + u) b = it s t (it s u b)
  | t, 0, b => rfl
  | t, u + 1, b => by
    show it s (t + u) (s b) = it s t (it s u (s b))
    exact it_add s t u (s b)
/-- an orbit of h -/
def orb (s : Int → Int) (h : Int) (k : Nat) : List Int := (List.range k).map fun i => it s i h
theorem orb_succ (s : Int → Int) (h : Int) (k : Nat) : orb s h (k + 1) = orb s h k ++ [it s k h] := by
  unfold orb
  rw [List.range_succ, List.map_append]
  rfl
structure Perms (l : List Int) : Prop where
  inn : ∀ b, b ∈ rng l.length → stp l b ∈ rng l.length
  inj : ∀ a, a ∈ rng l.length → ∀ b, b ∈ rng l.length → stp l a = stp l b → a = b
theorem perms_of {l : List Int} (g : good l) : Perms l := by
  refine ⟨fun b hb => ?_, fun a ha b hb e => ?_⟩
  · exact rng_mem.mpr (stp_mem g (rng_mem.mp hb))
  · have h1 := rng_mem.mp ha
    have h2 := rng_mem.mp hb
    unfold stp at e
    rw [List.getD_eq_getElem?_getD, List.getD_eq_getElem?_getD, List.getElem?_eq_getElem (by omega : (a - 1).toNat < l.length), List.getElem?_eq_getElem (by omega : (b - 1).toNat < l.length)] at e
    have := (List.getElem_inj (good_nodup g)).mp e
    omega
/-- a ring -/
structure Ring (l : List Int) (x : List Int) : Prop where
  ne : x ≠ []
  nd : x.Nodup
  ob : x = orb (stp l) (x.getD 0 0) x.length
  cl : it (stp l) x.length (x.getD 0 0) = x.getD 0 0
  mn : ∀ b ∈ x, x.getD 0 0 ≤ b
theorem cyI_spec {l : List Int} {left : List Int} {h : Int} : ∀ (n : Nat) (lf ring : List Int) (here : Int), lf.length ≤ n → (ring ++ lf).Perm left → lf.Sublist left → ring = orb (stp l) h ring.length → here = it (stp l) ring.length h →
    ∃ lf' ring', cyI l n lf ring here = (lf', ring', it (stp l) ring'.length h) ∧ (ring' ++ lf').Perm left ∧ lf'.Sublist left ∧ ring' = orb (stp l) h ring'.length ∧ it (stp l) ring'.length h ∉ lf' ∧ ring.length ≤ ring'.length ∧ (here ∈ lf → ring.length < ring'.length)
  | 0, lf, ring, here, hn, hp, hs, ho, hh => by
    have e : lf = [] := List.length_eq_zero_iff.mp (by omega)
    subst e
    subst hh
    exact ⟨[], ring, rfl, hp, hs, ho, by simp, Nat.le_refl _, fun z => by cases z⟩
  | n + 1, lf, ring, here, hn, hp, hs, ho, hh => by
    by_cases hin : here ∈ lf
    · have el := List.length_erase_of_mem hin
      have hpos := List.length_pos_of_mem hin
      have hp2 : ((ring ++ [here]) ++ lf.erase here).Perm left := by
        rw [List.append_assoc]
        exact ((List.perm_cons_erase hin).symm.append_left ring).trans hp
      have ho2 : ring ++ [here] = orb (stp l) h (ring ++ [here]).length := by
        rw [List.length_append, List.length_singleton, orb_succ, ← ho, hh]
      obtain ⟨lf', ring', h1, h2, h3, h4, h5, h6, h7⟩ := cyI_spec (h := h) n (lf.erase here) (ring ++ [here]) (stp l here) (by omega) hp2 (List.erase_sublist.trans hs) ho2 (by rw [List.length_append, List.length_singleton, it_succ, ← hh])
      refine ⟨lf', ring', ?_, h2, h3, h4, h5, ?_, fun _ => ?_⟩
      · unfold cyI
        rw [if_pos hin]
        exact h1
      · rw [List.length_append] at h6; omega
      · rw [List.length_append, List.length_singleton] at h6; omega
    · refine ⟨lf, ring, ?_, hp, hs, ho, by rw [← hh]; exact hin, Nat.le_refl _, fun z => (hin z).elim⟩
      unfold cyI
      rw [if_neg hin, hh]
theorem orb_get (s : Int → Int) (h : Int) {k i : Nat} (hi : i < k) : (orb s h k)[i]? = some (it s i h) := by
  unfold orb
  rw [List.getElem?_map, List.getElem?_range hi]
  rfl
theorem orb_mem {s : Int → Int} {h b : Int} {k : Nat} : b ∈ orb s h k ↔ ∃ i, i < k ∧ b = it s i h := by
  unfold orb
  rw [List.mem_map]
  constructor
  · rintro ⟨i, hi, rfl⟩
    exact ⟨i, List.mem_range.mp hi, rfl⟩
  · rintro ⟨i, hi, rfl⟩
    exact ⟨i, List.mem_range.mpr hi, rfl⟩
/-- one turn of the outer loop -/
theorem ring_of {l left : List Int} (P : Perms l) (hsub : ∀ b ∈ left, b ∈ rng l.length) (hnd : left.Nodup) (hst : left.Pairwise (· < ·)) (hinv : ∀ b ∈ left, stp l b ∈ left) (hne : left ≠ []) :
    ∃ lf' x, (cyI l left.length left [] (left.getD 0 0)).1 = lf' ∧ (cyI l left.length left [] (left.getD 0 0)).2.1 = x ∧ Ring l x ∧ x.getD 0 0 = left.getD 0 0 ∧ (x ++ lf').Perm left ∧ lf'.Sublist left ∧ (∀ b ∈ lf', stp l b ∈ lf') := by
  have hm := getD0_mem hne
  generalize hh : left.getD 0 0 = h at *
  obtain ⟨lf', x, h1, h2, h3, h4, h5, h6, h7⟩ := cyI_spec (l := l) (left := left) (h := h) left.length left [] h (Nat.le_refl _) (List.Perm.refl _) (List.Sublist.refl _) rfl rfl
  have hlen : 0 < x.length := h7 hm
  have hxl : ∀ b ∈ x, b ∈ left := fun b hb => h2.mem_iff.mp (List.mem_append_left _ hb)
  have hnd2 : (x ++ lf').Nodup := h2.nodup_iff.mpr hnd
  have hxnd : x.Nodup := (List.nodup_append.mp hnd2).1
  have hx0 : x.getD 0 0 = h := by
    rw [List.getD_eq_getElem?_getD, h4, orb_get _ _ hlen]
    rfl
  have ging : ∀ i, it (stp l) i h ∈ left := by
    intro i
    induction i with
    | zero => exact hm
    | succ i ih => rw [it_succ]; exact hinv _ ih
  have hcl : it (stp l) x.length h = h := by
    have hin : it (stp l) x.length h ∈ x := by
      rcases List.mem_append.mp (h2.mem_iff.mpr (ging x.length)) with z | z
      · exact z
      · exact (h5 z).elim
    rw [h4] at hin
    obtain ⟨j, hj, e⟩ := orb_mem.mp hin
    rw [← h4] at e
    cases j with
    | zero => exact e
    | succ j =>
      obtain ⟨k, hk⟩ : ∃ k, x.length = k + 1 := ⟨x.length - 1, by omega⟩
      rw [hk, it_succ, it_succ] at e
      have e2 := P.inj _ (hsub _ (ging k)) _ (hsub _ (ging j)) e
      have g1 := orb_get (stp l) h (show k < x.length by omega)
      have g2 := orb_get (stp l) h (show j < x.length by omega)
      rw [← h4] at g1 g2
      rw [e2] at g1
      have a1 := (List.getElem?_eq_some_iff.mp g1)
      have a2 := (List.getElem?_eq_some_iff.mp g2)
      obtain ⟨b1, c1⟩ := a1
      obtain ⟨b2, c2⟩ := a2
      have := (List.getElem_inj hxnd).mp (c1.trans c2.symm)
      omega
  have hmin : ∀ b ∈ left, h ≤ b := by
    cases left with
    | nil => exact (hne rfl).elim
    | cons a t =>
      have : a = h := by simpa using hh
      subst this
      intro b hb
      rcases List.mem_cons.mp hb with z | z
      · omega
      · have := (List.pairwise_cons.mp hst).1 b z
        omega
  refine ⟨lf', x, by rw [h1], by rw [h1], ⟨?_, hxnd, by rw [hx0]; exact h4, by rw [hx0]; exact hcl, fun b hb => by rw [hx0]; exact hmin b (hxl b hb)⟩, hx0, h2, h3, fun b hb => ?_⟩
  · intro z; rw [z] at hlen; simp at hlen
  · have hbl := h3.subset hb
    rcases List.mem_append.mp (h2.mem_iff.mpr (hinv b hbl)) with z | z
    · exfalso
      rw [h4] at z
      obtain ⟨j, hj, e⟩ := orb_mem.mp z
      have hbx : b ∈ x := by
        cases j with
        | zero =>
          have e : stp l b = h := e
          obtain ⟨k, hk⟩ : ∃ k, x.length = k + 1 := ⟨x.length - 1, by omega⟩
          rw [hk, it_succ] at hcl
          have := P.inj _ (hsub _ hbl) _ (hsub _ (ging k)) (e.trans hcl.symm)
          rw [this, h4]
          exact orb_mem.mpr ⟨k, by omega, rfl⟩
        | succ j =>
          rw [it_succ] at e
          have := P.inj _ (hsub _ hbl) _ (hsub _ (ging j)) e
          rw [this, h4]
          exact orb_mem.mpr ⟨j, by omega, rfl⟩
      exact (List.nodup_append.mp hnd2).2.2 b hbx b hb rfl
    · exact z
theorem cyO_spec {l : List Int} (P : Perms l) : ∀ (n : Nat) (left : List Int) (found : List (List Int)), left.length ≤ n → (∀ b ∈ left, b ∈ rng l.length) → left.Nodup → left.Pairwise (· < ·) → (∀ b ∈ left, stp l b ∈ left) →
    ∃ rs : List (List Int), cyO l n left found = found ++ rs ∧ rs.flatten.Perm left ∧ (∀ x ∈ rs, Ring l x) ∧ (rs.map fun x => x.getD 0 0).Pairwise (· ≤ ·)
  | 0, left, found, hn, _, _, _, _ => by
    have e : left = [] := List.length_eq_zero_iff.mp (by omega)
    subst e
    exact ⟨[], by simp [cyO], List.Perm.refl _, (fun x hx => by cases hx), List.Pairwise.nil⟩
  | n + 1, left, found, hn, hsub, hnd, hst, hinv => by
    by_cases hne : left = []
    · subst hne
      exact ⟨[], by simp [cyO], List.Perm.refl _, (fun x hx => by cases hx), List.Pairwise.nil⟩
    · obtain ⟨lf', x, e1, e2, hR, hx0, hp, hs, hi⟩ := ring_of P hsub hnd hst hinv hne
      have hlt := cyI_lt (row := l) (ring := []) (getD0_mem hne)
      rw [e1] at hlt
      obtain ⟨rs, a1, a2, a3, a4⟩ := cyO_spec P n lf' (found ++ [x]) (by omega) (fun b hb => hsub b (hs.subset hb)) (hnd.sublist hs) (hst.sublist hs) hi
      refine ⟨x :: rs, ?_, ?_, fun y hy => ?_, ?_⟩
      · unfold cyO
        rw [if_neg hne, e1, e2, a1]
        simp
      · rw [List.flatten_cons]
        exact (a2.append_left x).trans hp
      · rcases List.mem_cons.mp hy with z | z
        · rw [z]; exact hR
        · exact a3 y z
      · rw [List.map_cons]
        refine List.pairwise_cons.mpr ⟨fun b hb => ?_, a4⟩
        obtain ⟨y, hy, rfl⟩ := List.mem_map.mp hb
        have hyl : y.getD 0 0 ∈ left := hs.subset (a2.mem_iff.mp (List.mem_flatten.mpr ⟨y, hy, getD0_mem (a3 y hy).ne⟩))
        rw [hx0]
        cases left with
        | nil => exact (hne rfl).elim
        | cons a t =>
          show a ≤ _
          rcases List.mem_cons.mp hyl with z | z
          · omega
          · have := (List.pairwise_cons.mp hst).1 _ z
            omega
theorem rng_lt (n : Nat) : (rng n).Pairwise (· < ·) := by
  unfold rng
  refine List.Pairwise.map _ (fun a b h => ?_) List.pairwise_lt_range
  omega
theorem cyc_spec {l : List Int} (g : good l) : (cyc l).flatten.Perm (rng l.length) ∧ (∀ x ∈ cyc l, Ring l x) ∧ ((cyc l).map fun x => x.getD 0 0).Pairwise (· ≤ ·) := by
  have P := perms_of g
  obtain ⟨rs, a1, a2, a3, a4⟩ := cyO_spec P l.length (rng l.length) [] (by rw [rng_len]; exact Nat.le_refl _) (fun b h => h) (rng_nodup' _) (rng_lt _) P.inn
  have e : cyc l = rs := by
    unfold cyc
    rw [a1]
    rfl
  rw [e]
  exact ⟨a2, a3, a4⟩
theorem cyc_flat {l : List Int} (h : good l) : srt (cyc l).flatten = rng l.length := (srt_uniq (cyc_spec h).1.symm (rng_sorted _)).symm
theorem minI_ring {l x : List Int} (R : Ring l x) : minI x = x.getD 0 0 := Int.le_antisymm (minI_le (getD0_mem R.ne)) (R.mn _ (minI_mem R.ne))
theorem cyc_heads {l : List Int} (h : good l) : (cyc l).map (fun x => x.getD 0 0) = srt ((cyc l).map minI) := by
  have e : (cyc l).map minI = (cyc l).map (fun x => x.getD 0 0) := List.map_congr_left fun x hx => minI_ring ((cyc_spec h).2.1 x hx)
  rw [e]
  exact srt_uniq (List.Perm.refl _) (cyc_spec h).2.2
theorem cyc_step {l : List Int} (h : good l) : ∀ x ∈ cyc l, x.map (stp l) = x.drop 1 ++ x.take 1 := by
  intro x hx
  have R := (cyc_spec h).2.1 x hx
  have hpos := List.length_pos_iff.mpr R.ne
  obtain ⟨k, hk⟩ : ∃ k, x.length = k + 1 := ⟨x.length - 1, by omega⟩
  have ob := R.ob
  have cl := R.cl
  generalize x.getD 0 0 = b at ob cl
  rw [hk] at ob cl
  have e1 : orb (stp l) b (k + 1) = b :: (List.range k).map fun i => it (stp l) (i + 1) b := by
    unfold orb
    rw [List.range_succ_eq_map, List.map_cons, List.map_map]
    rfl
  have e2 : (orb (stp l) b (k + 1)).map (stp l) = ((List.range k).map fun i => it (stp l) (i + 1) b) ++ [b] := by
    rw [orb_succ, List.map_append]
    have : (orb (stp l) b k).map (stp l) = (List.range k).map fun i => it (stp l) (i + 1) b := by
      unfold orb
      rw [List.map_map]
      exact List.map_congr_left fun i _ => (it_succ _ _ _).symm
    rw [this]
    simp only [List.map_cons, List.map_nil]
    rw [← it_succ (stp l) k b, cl]
  rw [ob, e2, e1]
  rfl
end Bs
namespace Bs
open DL
theorem it_in {l : List Int} (P : Perms l) : ∀ (t : Nat) {b : Int}, b ∈ rng l.length → it (stp l) t b ∈ rng l.length
  | 0, _, h => h
  | t + 1, _, h => it_in P t (P.inn _ h)
theorem pow_it {l : List Int} (g : good l) : ∀ t, powR l t = (rng l.length).map (it (stp l) t)
  | 0 => by
    show rng l.length = _
    conv => lhs; rw [← List.map_id (rng l.length)]
    rfl
  | t + 1 => by
    have P := perms_of g
    show l.map (fun b => (powR l t).getD (b - 1).toNat 0) = _
    rw [pow_it g t]
    have e : ∀ b ∈ l, ((rng l.length).map (it (stp l) t)).getD (b - 1).toNat 0 = it (stp l) t b := fun b hb => by
      have hm := (good_mem g).mp hb
      have hlt : (b - 1).toNat < l.length := by omega
      have e2 : (rng l.length)[(b - 1).toNat]? = some b := by
        unfold rng
        rw [List.getElem?_map, List.getElem?_range hlt]
        simp
        omega
      rw [List.getD_eq_getElem?_getD, List.getElem?_map, e2]
      rfl
    rw [List.map_congr_left e]
    have e3 : l = (rng l.length).map (stp l) := (self_map l).symm
    conv => lhs; rw [e3]
    rw [List.map_map]
    show ((rng l.length).map _) = _
    have e4 : ((rng l.length).map (stp l)) = l := e3.symm
    refine List.map_congr_left fun b hb => ?_
    show it (stp ((rng l.length).map (stp l))) t (stp l b) = it (stp l) t (stp l b)
    rw [e4]
theorem pow_one {l : List Int} (h : good l) : powR l 1 = l := by
  rw [pow_it h 1]
  exact self_map l
theorem ring_it {l x : List Int} (R : Ring l x) (t : Nat) : (∀ b ∈ x, it (stp l) t b = b) ↔ x.length ∣ t := by
  have hpos := List.length_pos_iff.mpr R.ne
  have ob := R.ob
  have cl := R.cl
  have hm := getD0_mem R.ne
  generalize x.getD 0 0 = h at ob cl hm
  have back : ∀ i, it (stp l) x.length (it (stp l) i h) = it (stp l) i h := fun i => by
    rw [← it_add, Nat.add_comm, it_add, cl]
  have mul : ∀ q i, it (stp l) (x.length * q) (it (stp l) i h) = it (stp l) i h := by
    intro q
    induction q with
    | zero => intro i; rfl
    | succ q ih =>
      intro i
      rw [Nat.mul_succ, it_add, back, ih]
  constructor
  · intro hf
    have h0 := hf h hm
    have hr : it (stp l) (t % x.length) h = h := by
      have e : t = t % x.length + x.length * (t / x.length) := by
        have := Nat.mod_add_div t x.length
        omega
      have hz := mul (t / x.length) 0
      have hz : it (stp l) (x.length * (t / x.length)) h = h := hz
      rw [e, it_add, hz] at h0
      exact h0
    have hlt := Nat.mod_lt t hpos
    have g1 := orb_get (stp l) h hlt
    have g2 := orb_get (stp l) h hpos
    rw [← ob] at g1 g2
    rw [hr] at g1
    obtain ⟨b1, c1⟩ := List.getElem?_eq_some_iff.mp g1
    obtain ⟨b2, c2⟩ := List.getElem?_eq_some_iff.mp g2
    have c2 : x[0] = h := c2
    have := (List.getElem_inj R.nd).mp (c1.trans c2.symm)
    exact Nat.dvd_of_mod_eq_zero this
  · rintro ⟨q, rfl⟩ b hb
    rw [ob] at hb
    obtain ⟨i, hi, rfl⟩ := orb_mem.mp hb
    exact mul q i
theorem lcmS_eq (f : Nat) (x : List Int) : lcmS f x = Nat.lcm f x.length := by
  unfold lcmS Nat.lcm
  rw [Nat.div_mul_right_comm (Nat.gcd_dvd_left _ _)]
theorem fold_dvd : ∀ (xs : List (List Int)) (f t : Nat), xs.foldl lcmS f ∣ t ↔ f ∣ t ∧ ∀ x ∈ xs, x.length ∣ t
  | [], f, t => by simp
  | x :: xs, f, t => by
    rw [List.foldl_cons, fold_dvd xs, lcmS_eq, Nat.lcm_dvd_iff]
    simp [and_assoc]
theorem fold_pos : ∀ (xs : List (List Int)) (f : Nat), 0 < f → (∀ x ∈ xs, x ≠ []) → 0 < xs.foldl lcmS f
  | [], f, h, _ => h
  | x :: xs, f, h, hx => by
    rw [List.foldl_cons]
    refine fold_pos xs _ ?_ fun y hy => hx y (by simp [hy])
    rw [lcmS_eq]
    exact Nat.lcm_pos h (List.length_pos_iff.mpr (hx x (by simp)))
theorem pow_iff {l : List Int} (g : good l) (t : Nat) : powR l t = rng l.length ↔ ordV l ∣ t := by
  obtain ⟨c1, c2, c3⟩ := cyc_spec g
  unfold ordV
  rw [fold_dvd, pow_it g]
  constructor
  · intro h
    refine ⟨Nat.one_dvd _, fun x hx => (ring_it (c2 x hx) t).mp fun b hb => ?_⟩
    have hbr : b ∈ rng l.length := c1.mem_iff.mp (List.mem_flatten.mpr ⟨x, hx, hb⟩)
    have e : (rng l.length).map (it (stp l) t) = (rng l.length).map id := by rw [h, List.map_id]
    exact List.map_inj_left.mp e b hbr
  · rintro ⟨_, h⟩
    conv => rhs; rw [← List.map_id (rng l.length)]
    refine List.map_congr_left fun b hb => ?_
    obtain ⟨x, hx, hbx⟩ := List.mem_flatten.mp (c1.mem_iff.mpr hb)
    exact (ring_it (c2 x hx) t).mpr (h x hx) b hbx
theorem pow_ord {l : List Int} (h : good l) : 1 ≤ ordV l ∧ powR l (ordV l) = rng l.length ∧ (∀ t, 1 ≤ t → t < ordV l → powR l t ≠ rng l.length) := by
  refine ⟨fold_pos _ _ (by decide) fun x hx => (cyc_len h x hx).1, (pow_iff h _).mpr (Nat.dvd_refl _), fun t t1 t2 e => ?_⟩
  have := Nat.le_of_dvd t1 ((pow_iff h t).mp e)
  omega
end Bs
namespace Bs
open DL
/-! plain laws of rows -/
theorem pow_len (l : List Int) : ∀ t, (powR l t).length = l.length
  | 0 => rng_len _
  | t + 1 => by simp [powR]
theorem stepL_map {α β : Type} (f : α → β) (l : List α) (lo : Option Int) (st : Int) : L2.stepL (l.map f) lo st = (L2.stepL l lo st).map f := by
  unfold L2.stepL
  rw [List.length_map, List.map_filterMap]
  congr 1
  funext k
  rw [List.getElem?_map]
theorem rev_step : ∀ n : Nat, n ≤ 12 → L2.stepL (rng n) none (-1) = (rng n).reverse := by decide +kernel
theorem queens_step : ∀ n : Nat, n ≤ 12 → L2.stepL (rng n) none 2 ++ L2.stepL (rng n) (some 1) 2 = queens n := by decide +kernel
def ptC (n : Nat) (t : Trip) : Int := t.2.1 * (if t.1 = 0 ∨ t.1 + t.2.1 = (n : Int) then 2 else 1)
theorem pts_sum (n : Nat) (ts : List Trip) : (ts.map (ptC n)).sum = ts.foldl (ptS n) 0 := by
  have key : ∀ (ts : List Trip) (a : Int), ts.foldl (ptS n) a = a + (ts.map (ptC n)).sum := by
    intro ts
    induction ts with
    | nil => intro a; simp
    | cons t ts ih =>
      intro a
      rw [List.foldl_cons, ih, List.map_cons, List.sum_cons]
      show a + ptC n t + _ = _
      omega
  rw [key]
  omega
theorem nb_trips (l : List Trip) : nbs (l.map tripD) = true := by
  induction l with
  | nil => rfl
  | cons a l ih => simp [nbs, nb, ih]
theorem sh_trips (l : List Trip) : sh (.lst (l.map tripD)) = true := by
  have h1 : pls (l.map tripD) = true := by
    induction l with
    | nil => rfl
    | cons a l ih => simp [pls, pl, ih]
  have h2 : deps (l.map tripD) ≤ 1 := by
    induction l with
    | nil => simp [deps]
    | cons a l ih =>
      simp [deps, dep]
      have := ih (by
        simp [pls, pl] at h1
        exact h1)
      omega
  unfold sh
  simp [pl, h1, dep]
  omega
theorem eq_trips (a b : List Trip) (h : a = b) : eqD (.lst (a.map tripD)) (.lst (b.map tripD)) = true := by
  subst h
  exact (eqD_iff (by simp [nb, nb_trips]) (by simp [nb, nb_trips])).mpr rfl
end Bs
namespace Bs
open PySem PySem.Spec PyProof.Rows L2 DL GX GxR LmX

def lamOf : Expr → LInfo
  | .Lambda params body scope _ => ⟨("law.<locals>.<lambda>" : Str), params, body, scope⟩
  | e => ⟨("" : Str), default, e, default⟩
def valOf : Stmt → List Expr
  | .Assign _ (.List es _) _ => es
  | _ => []
def badE : List Expr := valOf ((defBody s_law).getD 1 (.Pass ⟨0, 0, 0, 0⟩))
def badI : List LInfo := badE.map lamOf
def noI : LInfo := lamOf (.Constant .none 0 ⟨0, 0, 0, 0⟩)
abbrev bI (i : Nat) : LInfo := badI.getD i noI
def goodB (l : List Int) : Bool := decide (3 ≤ l.length ∧ l.length ≤ 12) && l.all (fun b => decide (1 ≤ b ∧ b ≤ (l.length : Int))) && decide l.Nodup
theorem rng_nodup (n : Nat) : (rng n).Nodup := by
  unfold rng
  refine List.Pairwise.map _ (fun a b h => ?_) List.nodup_range
  omega
theorem ng_of {l : List Int} (h : goodB l = false) : ¬ good l := fun g => by
  have h1 : goodB l = true := by
    unfold goodB
    simp only [Bool.and_eq_true, decide_eq_true_eq, List.all_eq_true]
    exact ⟨⟨⟨g.1, g.2.1⟩, fun b hb => (good_mem g).mp hb⟩, (good_perm g).nodup_iff.mpr (rng_nodup _)⟩
  rw [h] at h1
  cases h1
theorem bad_len : badI.length = 16 := by decide +kernel
section
variable {P : Program} {w : World} {K : PySem.W.Frag} {mg : Str → Option Value} {base : Heap} {T : Tb} {cRow : Addr}
theorem lam_0 (c_rounds : Cal P w K mg base T "rounds" 1 ["bells"] (R_rounds cRow)) : LmOk P w K mg base (L2.CX P w) 5 (bI 0) (spL T K (Oc.err cRow [])) := by
  obtain ⟨f1, fd1, o_rounds, m_rounds, k_rounds, b_rounds⟩ := c_rounds.ex
  exact lm_val (k := 4) (NdefX.nscope_by (by decide +kernel)) (fun _ _ _ => rfl) fun A outer s H f c E hr => ⟨_, (pe_call o_rounds (hr.mono (by decide)) (by rfl) m_rounds k_rounds b_rounds .nil (passes_call (takes_of (E := E) rfl rfl rfl rfl) (fun _ _ _ _ h => h)) (pa_cons pe_int pa_nil)), Or.inr ⟨cRow, ex_callC (n := 1) (R := R_rounds cRow) ⟨2, by decide, rfl, rfl, (oc_n (by decide)).symm⟩ (ea_cons ev_int ea_nil) rfl, ⟨rfl, rfl⟩⟩⟩
theorem lam_1 (c_rounds : Cal P w K mg base T "rounds" 1 ["bells"] (R_rounds cRow)) : LmOk P w K mg base (L2.CX P w) 5 (bI 1) (spL T K (Oc.err cRow [])) := by
  obtain ⟨f1, fd1, o_rounds, m_rounds, k_rounds, b_rounds⟩ := c_rounds.ex
  exact lm_val (k := 4) (NdefX.nscope_by (by decide +kernel)) (fun _ _ _ => rfl) fun A outer s H f c E hr => ⟨_, (pe_call o_rounds (hr.mono (by decide)) (by rfl) m_rounds k_rounds b_rounds .nil (passes_call (takes_of (E := E) rfl rfl rfl rfl) (fun _ _ _ _ h => h)) (pa_cons pe_int pa_nil)), Or.inr ⟨cRow, ex_callC (n := 1) (R := R_rounds cRow) ⟨13, by decide, rfl, rfl, (oc_n (by decide)).symm⟩ (ea_cons ev_int ea_nil) rfl, ⟨rfl, rfl⟩⟩⟩
theorem lam_2 (c_check_row : Cal P w K mg base T "check_row" 2 ["row"] (R_check_row cRow)) : LmOk P w K mg base (L2.CX P w) 5 (bI 2) (spL T K (Oc.err cRow [])) := by
  obtain ⟨f1, fd1, o_check_row, m_check_row, k_check_row, b_check_row⟩ := c_check_row.ex
  exact lm_val (k := 4) (NdefX.nscope_by (by decide +kernel)) (fun _ _ _ => rfl) fun A outer s H f c E hr => ⟨_, (pe_call o_check_row (hr.mono (by decide)) (by rfl) m_check_row k_check_row b_check_row .nil (passes_call (takes_of (E := E) rfl rfl rfl rfl) (fun _ _ _ _ h => h)) (pa_cons (pe_tup (pa_cons pe_int (pa_cons pe_int pa_nil))) pa_nil)), Or.inr ⟨cRow, ex_callC (n := 1) (R := R_check_row cRow) ⟨[1, 2], by decide, rfl, rfl, (oc_n (ng_of (by decide +kernel))).symm⟩ (ea_cons (ev_tup (ea_cons ev_int (ea_cons ev_int ea_nil)) (by simp)) ea_nil) rfl, ⟨rfl, rfl⟩⟩⟩
theorem lam_3 (c_check_row : Cal P w K mg base T "check_row" 2 ["row"] (R_check_row cRow)) : LmOk P w K mg base (L2.CX P w) 5 (bI 3) (spL T K (Oc.err cRow [])) := by
  obtain ⟨f1, fd1, o_check_row, m_check_row, k_check_row, b_check_row⟩ := c_check_row.ex
  exact lm_val (k := 4) (NdefX.nscope_by (by decide +kernel)) (fun _ _ _ => rfl) fun A outer s H f c E hr => ⟨_, (pe_call o_check_row (hr.mono (by decide)) (by rfl) m_check_row k_check_row b_check_row .nil (passes_call (takes_of (E := E) rfl rfl rfl rfl) (fun _ _ _ _ h => h)) (pa_cons (pe_tup (pa_cons pe_int (pa_cons pe_int (pa_cons pe_int pa_nil)))) pa_nil)), Or.inr ⟨cRow, ex_callC (n := 1) (R := R_check_row cRow) ⟨[1, 1, 2], by decide, rfl, rfl, (oc_n (ng_of (by decide +kernel))).symm⟩ (ea_cons (ev_tup (ea_cons ev_int (ea_cons ev_int (ea_cons ev_int ea_nil))) (by simp)) ea_nil) rfl, ⟨rfl, rfl⟩⟩⟩
theorem lam_4 (c_check_row : Cal P w K mg base T "check_row" 2 ["row"] (R_check_row cRow)) : LmOk P w K mg base (L2.CX P w) 5 (bI 4) (spL T K (Oc.err cRow [])) := by
  obtain ⟨f1, fd1, o_check_row, m_check_row, k_check_row, b_check_row⟩ := c_check_row.ex
  exact lm_val (k := 4) (NdefX.nscope_by (by decide +kernel)) (fun _ _ _ => rfl) fun A outer s H f c E hr => ⟨_, (pe_call o_check_row (hr.mono (by decide)) (by rfl) m_check_row k_check_row b_check_row .nil (passes_call (takes_of (E := E) rfl rfl rfl rfl) (fun _ _ _ _ h => h)) (pa_cons (pe_tup (pa_cons pe_int (pa_cons pe_int (pa_cons pe_int pa_nil)))) pa_nil)), Or.inr ⟨cRow, ex_callC (n := 1) (R := R_check_row cRow) ⟨[2, 3, 4], by decide, rfl, rfl, (oc_n (ng_of (by decide +kernel))).symm⟩ (ea_cons (ev_tup (ea_cons ev_int (ea_cons ev_int (ea_cons ev_int ea_nil))) (by simp)) ea_nil) rfl, ⟨rfl, rfl⟩⟩⟩
theorem lam_5 (c_row_text : Cal P w K mg base T "row_text" 3 ["row"] (R_row_text cRow)) : LmOk P w K mg base (L2.CX P w) 5 (bI 5) (spL T K (Oc.err cRow [])) := by
  obtain ⟨f1, fd1, o_row_text, m_row_text, k_row_text, b_row_text⟩ := c_row_text.ex
  exact lm_val (k := 4) (NdefX.nscope_by (by decide +kernel)) (fun _ _ _ => rfl) fun A outer s H f c E hr => ⟨_, (pe_call o_row_text (hr.mono (by decide)) (by rfl) m_row_text k_row_text b_row_text .nil (passes_call (takes_of (E := E) rfl rfl rfl rfl) (fun _ _ _ _ h => h)) (pa_cons (pe_tup (pa_cons pe_int (pa_cons pe_int (pa_cons pe_int pa_nil)))) pa_nil)), Or.inr ⟨cRow, ex_callC (n := 1) (R := R_row_text cRow) ⟨[1, 2, 2], by decide, rfl, rfl, (oc_n (ng_of (by decide +kernel))).symm⟩ (ea_cons (ev_tup (ea_cons ev_int (ea_cons ev_int (ea_cons ev_int ea_nil))) (by simp)) ea_nil) rfl, ⟨rfl, rfl⟩⟩⟩
theorem lam_6 (c_row_of : Cal P w K mg base T "row_of" 3 ["text"] (R_row_of cRow)) : LmOk P w K mg base (L2.CX P w) 5 (bI 6) (spL T K (Oc.err cRow [])) := by
  obtain ⟨f1, fd1, o_row_of, m_row_of, k_row_of, b_row_of⟩ := c_row_of.ex
  exact lm_val (k := 4) (NdefX.nscope_by (by decide +kernel)) (fun _ _ _ => rfl) fun A outer s H f c E hr => ⟨_, (pe_call o_row_of (hr.mono (by decide)) (by rfl) m_row_of k_row_of b_row_of .nil (passes_call (takes_of (E := E) rfl rfl rfl rfl) (fun _ _ _ _ h => h)) (pa_cons pe_str pa_nil)), Or.inr ⟨cRow, ex_callC (n := 1) (R := R_row_of cRow) ⟨"12A", by decide, rfl, rfl, (oc_n (fun h => absurd h.1 (by decide +kernel))).symm⟩ (ea_cons ev_str ea_nil) rfl, ⟨rfl, rfl⟩⟩⟩
theorem lam_7 (c_row_of : Cal P w K mg base T "row_of" 3 ["text"] (R_row_of cRow)) : LmOk P w K mg base (L2.CX P w) 5 (bI 7) (spL T K (Oc.err cRow [])) := by
  obtain ⟨f1, fd1, o_row_of, m_row_of, k_row_of, b_row_of⟩ := c_row_of.ex
  exact lm_val (k := 4) (NdefX.nscope_by (by decide +kernel)) (fun _ _ _ => rfl) fun A outer s H f c E hr => ⟨_, (pe_call o_row_of (hr.mono (by decide)) (by rfl) m_row_of k_row_of b_row_of .nil (passes_call (takes_of (E := E) rfl rfl rfl rfl) (fun _ _ _ _ h => h)) (pa_cons pe_str pa_nil)), Or.inr ⟨cRow, ex_callC (n := 1) (R := R_row_of cRow) ⟨"112", by decide, rfl, rfl, (oc_n (fun h => ng_of (by decide +kernel) h.2)).symm⟩ (ea_cons ev_str ea_nil) rfl, ⟨rfl, rfl⟩⟩⟩
theorem lam_8 (c_permuted : Cal P w K mg base T "permuted" 3 ["row", "other"] (R_permuted cRow)) : LmOk P w K mg base (L2.CX P w) 5 (bI 8) (spL T K (Oc.err cRow [])) := by
  obtain ⟨f1, fd1, o_permuted, m_permuted, k_permuted, b_permuted⟩ := c_permuted.ex
  exact lm_val (k := 4) (NdefX.nscope_by (by decide +kernel)) (fun _ _ _ => rfl) fun A outer s H f c E hr => ⟨_, (pe_call o_permuted (hr.mono (by decide)) (by rfl) m_permuted k_permuted b_permuted .nil (passes_call (takes_of (E := E) rfl rfl rfl rfl) (fun _ _ _ _ h => h)) (pa_cons (pe_tup (pa_cons pe_int (pa_cons pe_int (pa_cons pe_int pa_nil)))) (pa_cons (pe_tup (pa_cons pe_int (pa_cons pe_int (pa_cons pe_int (pa_cons pe_int pa_nil))))) pa_nil))), Or.inr ⟨cRow, ex_callC (n := 2) (R := R_permuted cRow) ⟨[1, 2, 3], [1, 2, 3, 4], by decide, by decide, rfl, rfl, (oc_n (fun h => absurd h.2.2 (by decide))).symm⟩ (ea_cons (ev_tup (ea_cons ev_int (ea_cons ev_int (ea_cons ev_int ea_nil))) (by simp)) (ea_cons (ev_tup (ea_cons ev_int (ea_cons ev_int (ea_cons ev_int (ea_cons ev_int ea_nil)))) (by simp)) ea_nil)) rfl, ⟨rfl, rfl⟩⟩⟩
theorem lam_9 (c_undone : Cal P w K mg base T "undone" 3 ["row"] (R_undone cRow)) : LmOk P w K mg base (L2.CX P w) 5 (bI 9) (spL T K (Oc.err cRow [])) := by
  obtain ⟨f1, fd1, o_undone, m_undone, k_undone, b_undone⟩ := c_undone.ex
  exact lm_val (k := 4) (NdefX.nscope_by (by decide +kernel)) (fun _ _ _ => rfl) fun A outer s H f c E hr => ⟨_, (pe_call o_undone (hr.mono (by decide)) (by rfl) m_undone k_undone b_undone .nil (passes_call (takes_of (E := E) rfl rfl rfl rfl) (fun _ _ _ _ h => h)) (pa_cons (pe_tup (pa_cons pe_int (pa_cons pe_int pa_nil))) pa_nil)), Or.inr ⟨cRow, ex_callC (n := 1) (R := R_undone cRow) ⟨[1, 3], _, by decide, rfl, Or.inr ⟨rfl, ng_of (by decide +kernel)⟩, rfl, (oc_n (ng_of (by decide +kernel))).symm⟩ (ea_cons (ev_tup (ea_cons ev_int (ea_cons ev_int ea_nil)) (by simp)) ea_nil) rfl, ⟨rfl, rfl⟩⟩⟩
theorem lam_10 (c_is_odd : Cal P w K mg base T "is_odd" 3 ["row"] (R_is_odd cRow)) : LmOk P w K mg base (L2.CX P w) 5 (bI 10) (spL T K (Oc.err cRow [])) := by
  obtain ⟨f1, fd1, o_is_odd, m_is_odd, k_is_odd, b_is_odd⟩ := c_is_odd.ex
  exact lm_val (k := 4) (NdefX.nscope_by (by decide +kernel)) (fun _ _ _ => rfl) fun A outer s H f c E hr => ⟨_, (pe_call o_is_odd (hr.mono (by decide)) (by rfl) m_is_odd k_is_odd b_is_odd .nil (passes_call (takes_of (E := E) rfl rfl rfl rfl) (fun _ _ _ _ h => h)) (pa_cons (pe_tup pa_nil) pa_nil)), Or.inr ⟨cRow, ex_callC (n := 1) (R := R_is_odd cRow) ⟨[], by decide, rfl, rfl, (oc_n (ng_of (by decide +kernel))).symm⟩ (ea_cons (ev_tup ea_nil (by simp)) ea_nil) rfl, ⟨rfl, rfl⟩⟩⟩
theorem lam_11 (c_cycles : Cal P w K mg base T "cycles" 3 ["row"] (R_cycles cRow)) : LmOk P w K mg base (L2.CX P w) 5 (bI 11) (spL T K (Oc.err cRow [])) := by
  obtain ⟨f1, fd1, o_cycles, m_cycles, k_cycles, b_cycles⟩ := c_cycles.ex
  exact lm_val (k := 4) (NdefX.nscope_by (by decide +kernel)) (fun _ _ _ => rfl) fun A outer s H f c E hr => ⟨_, (pe_call o_cycles (hr.mono (by decide)) (by rfl) m_cycles k_cycles b_cycles .nil (passes_call (takes_of (E := E) rfl rfl rfl rfl) (fun _ _ _ _ h => h)) (pa_cons (pe_tup (pa_cons pe_int (pa_cons pe_int (pa_cons pe_int pa_nil)))) pa_nil)), Or.inr ⟨cRow, ex_callC (n := 1) (R := R_cycles cRow) ⟨[0, 1, 2], by decide, rfl, rfl, (oc_n (ng_of (by decide +kernel))).symm⟩ (ea_cons (ev_tup (ea_cons ev_int (ea_cons ev_int (ea_cons ev_int ea_nil))) (by simp)) ea_nil) rfl, ⟨rfl, rfl⟩⟩⟩
theorem lam_12 (c_order_of : Cal P w K mg base T "order_of" 4 ["row"] (R_order_of cRow)) : LmOk P w K mg base (L2.CX P w) 5 (bI 12) (spL T K (Oc.err cRow [])) := by
  obtain ⟨f1, fd1, o_order_of, m_order_of, k_order_of, b_order_of⟩ := c_order_of.ex
  exact lm_val (k := 4) (NdefX.nscope_by (by decide +kernel)) (fun _ _ _ => rfl) fun A outer s H f c E hr => ⟨_, (pe_call o_order_of (hr.mono (by decide)) (by rfl) m_order_of k_order_of b_order_of .nil (passes_call (takes_of (E := E) rfl rfl rfl rfl) (fun _ _ _ _ h => h)) (pa_cons (pe_tup (pa_cons pe_int pa_nil)) pa_nil)), Or.inr ⟨cRow, ex_callC (n := 1) (R := R_order_of cRow) ⟨[1], by decide, rfl, rfl, (oc_n (ng_of (by decide +kernel))).symm⟩ (ea_cons (ev_tup (ea_cons ev_int ea_nil) (by simp)) ea_nil) rfl, ⟨rfl, rfl⟩⟩⟩
theorem lam_13 (c_runs : Cal P w K mg base T "runs" 3 ["row", "least"] (R_runs cRow)) : LmOk P w K mg base (L2.CX P w) 5 (bI 13) (spL T K (Oc.err cRow [])) := by
  obtain ⟨f1, fd1, o_runs, m_runs, k_runs, b_runs⟩ := c_runs.ex
  exact lm_val (k := 4) (NdefX.nscope_by (by decide +kernel)) (fun _ _ _ => rfl) fun A outer s H f c E hr => ⟨_, (pe_call o_runs (hr.mono (by decide)) (by rfl) m_runs k_runs b_runs .nil (passes_call (takes_of (E := E) rfl rfl rfl rfl) (fun _ _ _ _ h => h)) (pa_cons (pe_tup (pa_cons pe_int (pa_cons pe_int (pa_cons pe_int pa_nil)))) (pa_cons pe_int pa_nil))), Or.inr ⟨cRow, ex_callC (n := 2) (R := R_runs cRow) ⟨[1, 2, 3], 1, by decide, rfl, rfl, (oc_n (fun h => absurd h.2 (by decide))).symm⟩ (ea_cons (ev_tup (ea_cons ev_int (ea_cons ev_int (ea_cons ev_int ea_nil))) (by simp)) (ea_cons ev_int ea_nil)) rfl, ⟨rfl, rfl⟩⟩⟩
theorem lam_14 (c_runs : Cal P w K mg base T "runs" 3 ["row", "least"] (R_runs cRow)) : LmOk P w K mg base (L2.CX P w) 5 (bI 14) (spL T K (Oc.err cRow [])) := by
  obtain ⟨f1, fd1, o_runs, m_runs, k_runs, b_runs⟩ := c_runs.ex
  exact lm_val (k := 4) (NdefX.nscope_by (by decide +kernel)) (fun _ _ _ => rfl) fun A outer s H f c E hr => ⟨_, (pe_call o_runs (hr.mono (by decide)) (by rfl) m_runs k_runs b_runs .nil (passes_call (takes_of (E := E) rfl rfl rfl rfl) (fun _ _ _ _ h => h)) (pa_cons (pe_tup (pa_cons pe_int (pa_cons pe_int pa_nil))) (pa_cons pe_int pa_nil))), Or.inr ⟨cRow, ex_callC (n := 2) (R := R_runs cRow) ⟨[1, 2], 2, by decide, rfl, rfl, (oc_n (fun h => ng_of (by decide +kernel) h.1)).symm⟩ (ea_cons (ev_tup (ea_cons ev_int (ea_cons ev_int ea_nil)) (by simp)) (ea_cons ev_int ea_nil)) rfl, ⟨rfl, rfl⟩⟩⟩
theorem lam_15 (c_music : Cal P w K mg base T "music" 4 ["row"] (R_music cRow)) : LmOk P w K mg base (L2.CX P w) 5 (bI 15) (spL T K (Oc.err cRow [])) := by
  obtain ⟨f1, fd1, o_music, m_music, k_music, b_music⟩ := c_music.ex
  exact lm_val (k := 4) (NdefX.nscope_by (by decide +kernel)) (fun _ _ _ => rfl) fun A outer s H f c E hr => ⟨_, (pe_call o_music (hr.mono (by decide)) (by rfl) m_music k_music b_music .nil (passes_call (takes_of (E := E) rfl rfl rfl rfl) (fun _ _ _ _ h => h)) (pa_cons (pe_tup (pa_cons pe_int (pa_cons pe_int pa_nil))) pa_nil)), Or.inr ⟨cRow, ex_callC (n := 1) (R := R_music cRow) ⟨[1, 2], by decide, rfl, rfl, (oc_n (ng_of (by decide +kernel))).symm⟩ (ea_cons (ev_tup (ea_cons ev_int (ea_cons ev_int ea_nil)) (by simp)) ea_nil) rfl, ⟨rfl, rfl⟩⟩⟩
theorem lam_all (c_rounds : Cal P w K mg base T "rounds" 1 ["bells"] (R_rounds cRow)) (c_check_row : Cal P w K mg base T "check_row" 2 ["row"] (R_check_row cRow)) (c_row_text : Cal P w K mg base T "row_text" 3 ["row"] (R_row_text cRow)) (c_row_of : Cal P w K mg base T "row_of" 3 ["text"] (R_row_of cRow)) (c_permuted : Cal P w K mg base T "permuted" 3 ["row", "other"] (R_permuted cRow)) (c_undone : Cal P w K mg base T "undone" 3 ["row"] (R_undone cRow)) (c_is_odd : Cal P w K mg base T "is_odd" 3 ["row"] (R_is_odd cRow)) (c_cycles : Cal P w K mg base T "cycles" 3 ["row"] (R_cycles cRow)) (c_order_of : Cal P w K mg base T "order_of" 4 ["row"] (R_order_of cRow)) (c_runs : Cal P w K mg base T "runs" 3 ["row", "least"] (R_runs cRow)) (c_music : Cal P w K mg base T "music" 4 ["row"] (R_music cRow)) : ∀ I ∈ badI, LmOk P w K mg base (L2.CX P w) 5 I (spL T K (Oc.err cRow [])) := by
  intro I hI
  obtain ⟨i, hi, e⟩ := List.getElem_of_mem hI
  rw [bad_len] at hi
  have e2 : I = bI i := by
    show I = badI.getD i noI
    rw [List.getD_eq_getElem?_getD, List.getElem?_eq_getElem (by rw [bad_len]; exact hi), ← e]
    rfl
  subst e2
  clear e hI
  have hc : i = 0 ∨ i = 1 ∨ i = 2 ∨ i = 3 ∨ i = 4 ∨ i = 5 ∨ i = 6 ∨ i = 7 ∨ i = 8 ∨ i = 9 ∨ i = 10 ∨ i = 11 ∨ i = 12 ∨ i = 13 ∨ i = 14 ∨ i = 15 := by omega
  rcases hc with rfl | rfl | rfl | rfl | rfl | rfl | rfl | rfl | rfl | rfl | rfl | rfl | rfl | rfl | rfl | rfl
  · exact lam_0 c_rounds
  · exact lam_1 c_rounds
  · exact lam_2 c_check_row
  · exact lam_3 c_check_row
  · exact lam_4 c_check_row
  · exact lam_5 c_row_text
  · exact lam_6 c_row_of
  · exact lam_7 c_row_of
  · exact lam_8 c_permuted
  · exact lam_9 c_undone
  · exact lam_10 c_is_odd
  · exact lam_11 c_cycles
  · exact lam_12 c_order_of
  · exact lam_13 c_runs
  · exact lam_14 c_runs
  · exact lam_15 c_music
end
end Bs
namespace Bs
open PySem PySem.Spec PyProof.Rows L2 DL GX GxR LmX


















section
variable {P : Program} {w : World} {K : PySem.W.Frag} {mg : Str → Option Value} {base : Heap} {T : Tb} {cRow : Addr} {f c Pt : Addr} {fd : FuncData} {uS : Value}
theorem sc_law : FnScope ["script", "dice", "bells", "row", "other", "plain", "text", "bell", "swaps", "left", "k", "times", "here", "rings", "ring", "near", "one", "least", "points", "place", "long", "step", "bad", "f"] ["script"] (defScope s_law) := ⟨rfl, rfl, rfl, by decide +kernel, rfl, by decide +kernel, by decide +kernel⟩
def R_law : Rel := fun ds r o => ∃ ns : List Int, ds = [.lsq (ns.map D.int)] ∧ r = [] ∧ o = .one (.bl true) []
abbrev lamT (T : Tb) (Pt : Addr) : Prop := (Pt, (("law" : Str) ++ ".<locals>." ++ "<lambda>")) ∈ T.ls
theorem ok_law (F : Fun K "law" "law" s_law f fd) (hc : fd.code = .ref c) (B : Bi mg) (TBlaw : LamX.TabB base mg c Pt) (g_SIGNS_OF_BELLS : mg "SIGNS_OF_BELLS" = some uS ∧ RelV (.str SIGNS) uS)
    (hmT : (Pt, ("law.<locals>.<lambda>" : Str)) ∈ T.ls) (huT : ∀ p ∈ T.ls, p.1 = Pt → p.2 = ("law.<locals>.<lambda>" : Str))
    (c_rounds : Cal P w K mg base T "rounds" 1 ["bells"] (R_rounds cRow)) (c_check_row : Cal P w K mg base T "check_row" 2 ["row"] (R_check_row cRow)) (c_row_text : Cal P w K mg base T "row_text" 3 ["row"] (R_row_text cRow)) (c_row_of : Cal P w K mg base T "row_of" 3 ["text"] (R_row_of cRow))
    (c_permuted : Cal P w K mg base T "permuted" 3 ["row", "other"] (R_permuted cRow)) (c_undone : Cal P w K mg base T "undone" 3 ["row"] (R_undone cRow)) (c_is_odd : Cal P w K mg base T "is_odd" 3 ["row"] (R_is_odd cRow)) (c_cycles : Cal P w K mg base T "cycles" 3 ["row"] (R_cycles cRow)) (c_order_of : Cal P w K mg base T "order_of" 4 ["row"] (R_order_of cRow))
    (c_runs : Cal P w K mg base T "runs" 3 ["row", "least"] (R_runs cRow)) (c_music : Cal P w K mg base T "music" 4 ["row"] (R_music cRow)) (c_rounds2 : Cal P w K mg base T "_law_rounds" 2 ["script", "most"] R_rounds2) (c_roll : Cal P w K mg base T "_law_roll" 1 ["dice", "many"] R_roll) (c_row : Cal P w K mg base T "_law_row" 2 ["dice", "bells"] R_row)
    (c_lruns : Cal P w K mg base T "_law_runs" 1 ["row", "least"] R_lruns) (c_told : Cal P w K mg base T "_law_told" 6 ["what"] (R_told P w K mg base T 5 cRow)) : FnOk P w K mg base (L2.CX P w) 8 f fd ["script"] (spR T K 1 R_law) := by
  obtain ⟨f1, fd1, o_rounds, m_rounds, k_rounds, b_rounds⟩ := c_rounds.ex
  obtain ⟨f2, fd2, o_check_row, m_check_row, k_check_row, b_check_row⟩ := c_check_row.ex
  obtain ⟨f3, fd3, o_row_text, m_row_text, k_row_text, b_row_text⟩ := c_row_text.ex
  obtain ⟨f4, fd4, o_row_of, m_row_of, k_row_of, b_row_of⟩ := c_row_of.ex
  obtain ⟨f5, fd5, o_permuted, m_permuted, k_permuted, b_permuted⟩ := c_permuted.ex
  obtain ⟨f6, fd6, o_undone, m_undone, k_undone, b_undone⟩ := c_undone.ex
  obtain ⟨f7, fd7, o_is_odd, m_is_odd, k_is_odd, b_is_odd⟩ := c_is_odd.ex
  obtain ⟨f8, fd8, o_cycles, m_cycles, k_cycles, b_cycles⟩ := c_cycles.ex
  obtain ⟨f9, fd9, o_order_of, m_order_of, k_order_of, b_order_of⟩ := c_order_of.ex
  obtain ⟨f10, fd10, o_runs, m_runs, k_runs, b_runs⟩ := c_runs.ex
  obtain ⟨f11, fd11, o_music, m_music, k_music, b_music⟩ := c_music.ex
  obtain ⟨f12, fd12, o__law_rounds, m__law_rounds, k__law_rounds, b__law_rounds⟩ := c_rounds2.ex
  obtain ⟨f13, fd13, o__law_roll, m__law_roll, k__law_roll, b__law_roll⟩ := c_roll.ex
  obtain ⟨f14, fd14, o__law_row, m__law_row, k__law_row, b__law_row⟩ := c_row.ex
  obtain ⟨f15, fd15, o__law_runs, m__law_runs, k__law_runs, b__law_runs⟩ := c_lruns.ex
  obtain ⟨f16, fd16, o__law_told, m__law_told, k__law_told, b__law_told⟩ := c_told.ex
  refine okC F hc sc_law spR_len (fun A outer s H vs Q E hr h => ⟨_, (pss_cons (ps_for (passes_of rfl) rfl (pi_list (pe_call o__law_rounds (hr.mono (by decide)) (by rfl) m__law_rounds k__law_rounds b__law_rounds .nil (passes_call (takes_of (E := E) rfl rfl rfl rfl) (fun _ _ _ _ h => h)) (pa_cons (pv 0) (pa_cons pe_int pa_nil)))) (pg_name (i := 1) sc_law.nd rfl (by first | exact Or.inl rfl | exact Or.inr rfl)) (pss_cons (ps_set (i := 2) sc_law.nd rfl (by first | exact Or.inl rfl | exact Or.inr rfl) (pe_op op_add pe_int (pe_call o__law_roll (hr.mono (by decide)) (by rfl) m__law_roll k__law_roll b__law_roll .nil (passes_call (takes_of (E := E) rfl rfl rfl rfl) (fun _ _ _ _ h => h)) (pa_cons (pv 1) (pa_cons pe_int pa_nil)))))
      (pss_cons (ps_asg (pe_tup (pa_cons (pe_call o__law_row (hr.mono (by decide)) (by rfl) m__law_row k__law_row b__law_row .nil (passes_call (takes_of (E := E) rfl rfl rfl rfl) (fun _ _ _ _ h => h)) (pa_cons (pv 1) (pa_cons (pv 2) pa_nil))) (pa_cons (pe_call o__law_row (hr.mono (by decide)) (by rfl) m__law_row k__law_row b__law_row .nil (passes_call (takes_of (E := E) rfl rfl rfl rfl) (fun _ _ _ _ h => h)) (pa_cons (pv 1) (pa_cons (pv 2) pa_nil))) (pa_cons (pe_tupRg rfl (by rfl) B.tuple (prg_2 (by rfl) B.range pe_int (pe_op op_add (pv 2) pe_int))) pa_nil)))) (pg_tup (by rfl) (pgs_cons (pg_name (i := 3) sc_law.nd rfl (by first | exact Or.inl rfl | exact Or.inr rfl)) (pgs_cons (pg_name (i := 4) sc_law.nd rfl (by first | exact Or.inl rfl | exact Or.inr rfl)) (pgs_cons (pg_name (i := 5) sc_law.nd rfl (by first | exact Or.inl rfl | exact Or.inr rfl)) pgs_nil)))))
      (pss_cons (ps_set (i := 6) sc_law.nd rfl (by first | exact Or.inl rfl | exact Or.inr rfl) (pe_join pe_str (pe_lc (own := [("bell", 7)]) rfl sc_law.nd (pi_tup (pv 3)) (blkOk_by (N := ["script", "dice", "bells", "row", "other", "plain", "text", "bell", "swaps", "left", "k", "times", "here", "rings", "ring", "near", "one", "least", "points", "place", "long", "step", "bad", "f"]) (by kernel_rfl)) (fun _ _ _ _ _ => (pg_name (i := 7) sc_law.nd rfl (by first | exact Or.inl rfl | exact Or.inr rfl))) (fun _ _ _ _ _ => pts_nil) (fun _ _ _ _ _ => (pe_ix (r := rIxS) ix_str pe_str (pe_op op_sub (pv 7) pe_int) (fun _ _ => rfl))))))
      (pss_cons (ps_if (PW.pt (pw_or (pt_cmpR op_ne (pe_call o_row_text (hr.mono (by decide)) (by rfl) m_row_text k_row_text b_row_text .nil (passes_call (takes_of (E := E) rfl rfl rfl rfl) (fun _ _ _ _ h => h)) (pa_cons (pv 3) pa_nil)) (pv 6) (nomark _)) (pw_or (pt_cmpR (r := rNeD K) (op_neD hr.units) (pe_call o_row_of (hr.mono (by decide)) (by rfl) m_row_of k_row_of b_row_of .nil (passes_call (takes_of (E := E) rfl rfl rfl rfl) (fun _ _ _ _ h => h)) (pa_cons (pv 6) pa_nil)) (pv 3) (nomark _)) (pw_or (pt_cmpR (r := rNeD K) (op_neD hr.units) (pe_call o_rounds (hr.mono (by decide)) (by rfl) m_rounds k_rounds b_rounds .nil (passes_call (takes_of (E := E) rfl rfl rfl rfl) (fun _ _ _ _ h => h)) (pa_cons (pv 2) pa_nil)) (pv 5) (nomark _)) (pw_or1 (pt_cmpR op_notN (pe_call o_check_row (hr.mono (by decide)) (by rfl) m_check_row k_check_row b_check_row .nil (passes_call (takes_of (E := E) rfl rfl rfl rfl) (fun _ _ _ _ h => h)) (pa_cons (pv 3) pa_nil)) pe_non (nomark _))))))) (pss_one (ps_ret pe_bl)) pss_nil)
      (pss_cons (ps_if (PW.pt (pw_or (pt_cmpR (r := rNeD K) (op_neD hr.units) (pe_call o_permuted (hr.mono (by decide)) (by rfl) m_permuted k_permuted b_permuted .nil (passes_call (takes_of (E := E) rfl rfl rfl rfl) (fun _ _ _ _ h => h)) (pa_cons (pv 3) (pa_cons (pv 4) pa_nil))) (pe_tupX (by rfl) B.tuple (pe_lc (own := [("bell", 7)]) rfl sc_law.nd (pi_tup (pv 4)) (blkOk_by (N := ["script", "dice", "bells", "row", "other", "plain", "text", "bell", "swaps", "left", "k", "times", "here", "rings", "ring", "near", "one", "least", "points", "place", "long", "step", "bad", "f"]) (by kernel_rfl)) (fun _ _ _ _ _ => (pg_name (i := 7) sc_law.nd rfl (by first | exact Or.inl rfl | exact Or.inr rfl))) (fun _ _ _ _ _ => pts_nil) (fun _ _ _ _ _ => (pe_ix (r := rIxT K) ix_tup (pv 3) (pe_op op_sub (pv 7) pe_int) (fun _ _ => rfl))))) (nomark _)) (pw_or (pt_cmpR (r := rNeD K) (op_neD hr.units) (pe_call o_permuted (hr.mono (by decide)) (by rfl) m_permuted k_permuted b_permuted .nil (passes_call (takes_of (E := E) rfl rfl rfl rfl) (fun _ _ _ _ h => h)) (pa_cons (pv 3) (pa_cons (pe_call o_undone (hr.mono (by decide)) (by rfl) m_undone k_undone b_undone .nil (passes_call (takes_of (E := E) rfl rfl rfl rfl) (fun _ _ _ _ h => h)) (pa_cons (pv 3) pa_nil)) pa_nil))) (pv 5) (nomark _)) (pw_or1 (pt_cmpR (r := rNeD K) (op_neD hr.units) (pe_call o_permuted (hr.mono (by decide)) (by rfl) m_permuted k_permuted b_permuted .nil (passes_call (takes_of (E := E) rfl rfl rfl rfl) (fun _ _ _ _ h => h)) (pa_cons (pe_call o_undone (hr.mono (by decide)) (by rfl) m_undone k_undone b_undone .nil (passes_call (takes_of (E := E) rfl rfl rfl rfl) (fun _ _ _ _ h => h)) (pa_cons (pv 3) pa_nil)) (pa_cons (pv 3) pa_nil))) (pv 5) (nomark _)))))) (pss_one (ps_ret pe_bl)) pss_nil)
      (pss_cons (ps_par (i := 8) (j := 9) (by rfl) sc_law.nd rfl rfl (by decide) rfl rfl (pa_cons pe_int (pa_cons (pe_callTy (r := rListOfX K) call_list_of (by rfl) B.list (by decide +kernel) (pa_cons (pv 3) pa_nil)) pa_nil)) (by rfl))
      (pss_cons (ps_for (passes_of rfl) rfl (pi_range2 rfl B.range (pa_cons pe_int (pa_cons (pe_op op_add (pv 2) pe_int) pa_nil))) (pg_name (i := 7) sc_law.nd rfl (by first | exact Or.inl rfl | exact Or.inr rfl)) (pss_one (ps_while (passes_of rfl) (pt_cmpR op_ne (pe_bm PySem.F.plainAttrs_list PySem.F.slot_list_index PySem.F.type_list_index mt_index (pv 9) (pa_cons (pv 7) pa_nil)) (pe_op op_sub (pv 7) pe_int) (nomark _)) (pss_cons (ps_set (i := 10) sc_law.nd rfl (by first | exact Or.inl rfl | exact Or.inr rfl) (pe_bm PySem.F.plainAttrs_list PySem.F.slot_list_index PySem.F.type_list_index mt_index (pv 9) (pa_cons (pv 7) pa_nil)))
      (pss_one (ps_par (i := 9) (j := 8) (by rfl) sc_law.nd rfl rfl (by decide) rfl rfl (pa_cons (pe_op op_cat (pe_op op_cat (pe_slice (r := rSlL K) sl_list (pv 9) po_none (po_some (pe_op op_sub (pv 10) pe_int))) (pe_lst (pa_cons (pe_ix (r := rIxL K) ix_list (pv 9) (pv 10) (fun _ _ => rfl)) (pa_cons (pe_ix (r := rIxL K) ix_list (pv 9) (pe_op op_sub (pv 10) pe_int) (fun _ _ => rfl)) pa_nil)))) (pe_slice (r := rSlL K) sl_list (pv 9) (po_some (pe_op op_add (pv 10) pe_int)) po_none)) (pa_cons (pe_op op_add (pv 8) pe_int) pa_nil)) (by rfl)))))))
      (pss_cons (ps_if (PW.pt (pw_or (pt_cmpR op_ne (pe_call o_is_odd (hr.mono (by decide)) (by rfl) m_is_odd k_is_odd b_is_odd .nil (passes_call (takes_of (E := E) rfl rfl rfl rfl) (fun _ _ _ _ h => h)) (pa_cons (pv 3) pa_nil)) (pe_cmpR op_eq (pe_op op_mod (pv 8) pe_int) pe_int (nomark _)) (nomark _)) (pw_or1 (pt_cmpR op_ne (pe_call o_is_odd (hr.mono (by decide)) (by rfl) m_is_odd k_is_odd b_is_odd .nil (passes_call (takes_of (E := E) rfl rfl rfl rfl) (fun _ _ _ _ h => h)) (pa_cons (pe_call o_permuted (hr.mono (by decide)) (by rfl) m_permuted k_permuted b_permuted .nil (passes_call (takes_of (E := E) rfl rfl rfl rfl) (fun _ _ _ _ h => h)) (pa_cons (pv 3) (pa_cons (pv 4) pa_nil))) pa_nil)) (pe_cmpR op_ne (pe_call o_is_odd (hr.mono (by decide)) (by rfl) m_is_odd k_is_odd b_is_odd .nil (passes_call (takes_of (E := E) rfl rfl rfl rfl) (fun _ _ _ _ h => h)) (pa_cons (pv 3) pa_nil)) (pe_call o_is_odd (hr.mono (by decide)) (by rfl) m_is_odd k_is_odd b_is_odd .nil (passes_call (takes_of (E := E) rfl rfl rfl rfl) (fun _ _ _ _ h => h)) (pa_cons (pv 4) pa_nil)) (nomark _)) (nomark _))))) (pss_one (ps_ret pe_bl)) pss_nil)
      (pss_cons (ps_asg (pe_tup (pa_cons pe_int (pa_cons (pv 3) pa_nil))) (pg_tup (by rfl) (pgs_cons (pg_name (i := 11) sc_law.nd rfl (by first | exact Or.inl rfl | exact Or.inr rfl)) (pgs_cons (pg_name (i := 12) sc_law.nd rfl (by first | exact Or.inl rfl | exact Or.inr rfl)) pgs_nil))))
      (pss_cons (ps_while (passes_of rfl) (pt_cmpR (r := rNeD K) (op_neD hr.units) (pv 12) (pv 5) (nomark _)) (pss_one (ps_asg (pe_tup (pa_cons (pe_tupX (by rfl) B.tuple (pe_lc (own := [("bell", 7)]) rfl sc_law.nd (pi_tup (pv 3)) (blkOk_by (N := ["script", "dice", "bells", "row", "other", "plain", "text", "bell", "swaps", "left", "k", "times", "here", "rings", "ring", "near", "one", "least", "points", "place", "long", "step", "bad", "f"]) (by kernel_rfl)) (fun _ _ _ _ _ => (pg_name (i := 7) sc_law.nd rfl (by first | exact Or.inl rfl | exact Or.inr rfl))) (fun _ _ _ _ _ => pts_nil) (fun _ _ _ _ _ => (pe_ix (r := rIxT K) ix_tup (pv 12) (pe_op op_sub (pv 7) pe_int) (fun _ _ => rfl))))) (pa_cons (pe_op op_add (pv 11) pe_int) pa_nil))) (pg_tup (by rfl) (pgs_cons (pg_name (i := 12) sc_law.nd rfl (by first | exact Or.inl rfl | exact Or.inr rfl)) (pgs_cons (pg_name (i := 11) sc_law.nd rfl (by first | exact Or.inl rfl | exact Or.inr rfl)) pgs_nil))))))
      (pss_cons (ps_set (i := 13) sc_law.nd rfl (by first | exact Or.inl rfl | exact Or.inr rfl) (pe_call o_cycles (hr.mono (by decide)) (by rfl) m_cycles k_cycles b_cycles .nil (passes_call (takes_of (E := E) rfl rfl rfl rfl) (fun _ _ _ _ h => h)) (pa_cons (pv 3) pa_nil)))
      (pss_cons (ps_if (PW.pt (pw_or (pt_cmpR op_ne (pe_call o_order_of (hr.mono (by decide)) (by rfl) m_order_of k_order_of b_order_of .nil (passes_call (takes_of (E := E) rfl rfl rfl rfl) (fun _ _ _ _ h => h)) (pa_cons (pv 3) pa_nil)) (pv 11) (nomark _)) (pw_or (pt_cmpR (r := rNeD K) (op_neD hr.units) (pe_callB (r := rSortedX K) cr_sortedX (by rfl) B.sorted (by decide +kernel) (pa_cons (pe_callB (r := rSumL K) (cr_sumL rfl) (by rfl) B.sum (by decide +kernel) (pa_cons (pe_lc (own := [("ring", 14)]) rfl sc_law.nd (pi_tup (pv 13)) (blkOk_by (N := ["script", "dice", "bells", "row", "other", "plain", "text", "bell", "swaps", "left", "k", "times", "here", "rings", "ring", "near", "one", "least", "points", "place", "long", "step", "bad", "f"]) (by kernel_rfl)) (fun _ _ _ _ _ => (pg_name (i := 14) sc_law.nd rfl (by first | exact Or.inl rfl | exact Or.inr rfl))) (fun _ _ _ _ _ => pts_nil) (fun _ _ _ _ _ => (pe_callTy (r := rListOfX K) call_list_of (by rfl) B.list (by decide +kernel) (pa_cons (pv 14) pa_nil)))) (pa_cons (pe_lst pa_nil) pa_nil))) pa_nil)) (pe_callTy (r := rListOfX K) call_list_of (by rfl) B.list (by decide +kernel) (pa_cons (pv 5) pa_nil)) (nomark _)) (pw_or1 (pt_cmpR (r := rNeD K) (op_neD hr.units) (pe_lc (own := [("ring", 14)]) rfl sc_law.nd (pi_tup (pv 13)) (blkOk_by (N := ["script", "dice", "bells", "row", "other", "plain", "text", "bell", "swaps", "left", "k", "times", "here", "rings", "ring", "near", "one", "least", "points", "place", "long", "step", "bad", "f"]) (by kernel_rfl)) (fun _ _ _ _ _ => (pg_name (i := 14) sc_law.nd rfl (by first | exact Or.inl rfl | exact Or.inr rfl))) (fun _ _ _ _ _ => pts_nil) (fun _ _ _ _ _ => (pe_ix (r := rIxT K) ix_tup (pv 14) pe_int (fun _ _ => rfl)))) (pe_callB (r := rSortedX K) cr_sortedX (by rfl) B.sorted (by decide +kernel) (pa_cons (pe_lc (own := [("ring", 14)]) rfl sc_law.nd (pi_tup (pv 13)) (blkOk_by (N := ["script", "dice", "bells", "row", "other", "plain", "text", "bell", "swaps", "left", "k", "times", "here", "rings", "ring", "near", "one", "least", "points", "place", "long", "step", "bad", "f"]) (by kernel_rfl)) (fun _ _ _ _ _ => (pg_name (i := 14) sc_law.nd rfl (by first | exact Or.inl rfl | exact Or.inr rfl))) (fun _ _ _ _ _ => pts_nil) (fun _ _ _ _ _ => (pe_callB (r := rMinT K) (cr_minT rfl) (by rfl) B.min (by decide +kernel) (pa_cons (pv 14) pa_nil)))) pa_nil)) (nomark _)))))) (pss_one (ps_ret pe_bl)) pss_nil)
      (pss_cons (ps_for (passes_of rfl) rfl (pi_tup (pv 13)) (pg_name (i := 14) sc_law.nd rfl (by first | exact Or.inl rfl | exact Or.inr rfl)) (pss_one (ps_if (pt_cmpR (r := rNeD K) (op_neD hr.units) (pe_lc (own := [("bell", 7)]) rfl sc_law.nd (pi_tup (pv 14)) (blkOk_by (N := ["script", "dice", "bells", "row", "other", "plain", "text", "bell", "swaps", "left", "k", "times", "here", "rings", "ring", "near", "one", "least", "points", "place", "long", "step", "bad", "f"]) (by kernel_rfl)) (fun _ _ _ _ _ => (pg_name (i := 7) sc_law.nd rfl (by first | exact Or.inl rfl | exact Or.inr rfl))) (fun _ _ _ _ _ => pts_nil) (fun _ _ _ _ _ => (pe_ix (r := rIxT K) ix_tup (pv 3) (pe_op op_sub (pv 7) pe_int) (fun _ _ => rfl)))) (pe_callTy (r := rListOfX K) call_list_of (by rfl) B.list (by decide +kernel) (pa_cons (pe_op op_catA (pe_slice (r := rSlA K) sl_tupA (pv 14) (po_some pe_int) po_none) (pe_slice (r := rSlA K) sl_tupA (pv 14) po_none (po_some pe_int))) pa_nil)) (nomark _)) (pss_one (ps_ret pe_bl)) pss_nil)))
      (pss_cons (ps_set (i := 15) sc_law.nd rfl (by first | exact Or.inl rfl | exact Or.inr rfl) (pe_op op_catA (pe_slice (r := rSlA K) sl_tupA (pv 5) (po_some (pe_call o__law_roll (hr.mono (by decide)) (by rfl) m__law_roll k__law_roll b__law_roll .nil (passes_call (takes_of (E := E) rfl rfl rfl rfl) (fun _ _ _ _ h => h)) (pa_cons (pv 1) (pa_cons (pv 2) pa_nil)))) po_none) (pe_slice (r := rSlA K) sl_tupA (pv 5) po_none (po_some (pe_call o__law_roll (hr.mono (by decide)) (by rfl) m__law_roll k__law_roll b__law_roll .nil (passes_call (takes_of (E := E) rfl rfl rfl rfl) (fun _ _ _ _ h => h)) (pa_cons (pv 1) (pa_cons (pv 2) pa_nil)))))))
      (pss_cons (ps_set (i := 15) sc_law.nd rfl (by first | exact Or.inl rfl | exact Or.inr rfl) (pe_ifExp (pt_cmpR (r := rEqD K) (op_eqD hr.units) (pe_callB (r := rSortedX K) cr_sortedX (by rfl) B.sorted (by decide +kernel) (pa_cons (pv 15) pa_nil)) (pe_callTy (r := rListOfX K) call_list_of (by rfl) B.list (by decide +kernel) (pa_cons (pv 5) pa_nil)) (nomark _)) (pv 15) (pe_stepT (pv 5) po_none (pe_un un_neg pe_int))))
      (pss_one (ps_for (passes_of rfl) rfl (pi_list (pe_lst (pa_cons (pv 3) (pa_cons (pv 15) pa_nil)))) (pg_name (i := 16) sc_law.nd rfl (by first | exact Or.inl rfl | exact Or.inr rfl)) (pss_cons (ps_set (i := 17) sc_law.nd rfl (by first | exact Or.inl rfl | exact Or.inr rfl) (pe_op op_add pe_int (pe_call o__law_roll (hr.mono (by decide)) (by rfl) m__law_roll k__law_roll b__law_roll .nil (passes_call (takes_of (E := E) rfl rfl rfl rfl) (fun _ _ _ _ h => h)) (pa_cons (pv 1) (pa_cons pe_int pa_nil)))))
      (pss_cons (ps_if (pt_cmpR (r := rNeD K) (op_neD hr.units) (pe_callTy (r := rListOfX K) call_list_of (by rfl) B.list (by decide +kernel) (pa_cons (pe_call o_runs (hr.mono (by decide)) (by rfl) m_runs k_runs b_runs .nil (passes_call (takes_of (E := E) rfl rfl rfl rfl) (fun _ _ _ _ h => h)) (pa_cons (pv 16) (pa_cons (pv 17) pa_nil))) pa_nil)) (pe_call o__law_runs (hr.mono (by decide)) (by rfl) m__law_runs k__law_runs b__law_runs .nil (passes_call (takes_of (E := E) rfl rfl rfl rfl) (fun _ _ _ _ h => h)) (pa_cons (pv 16) (pa_cons (pv 17) pa_nil))) (nomark _)) (pss_one (ps_ret pe_bl)) pss_nil)
      (pss_cons (ps_set (i := 18) sc_law.nd rfl (by first | exact Or.inl rfl | exact Or.inr rfl) (pe_callB (r := rSum K) (cr_sum rfl) (by rfl) B.sum (by decide +kernel) (pa_cons (pe_lc (own := [("place", 19), ("long", 20), ("step", 21)]) rfl sc_law.nd (pi_list (pe_call o__law_runs (hr.mono (by decide)) (by rfl) m__law_runs k__law_runs b__law_runs .nil (passes_call (takes_of (E := E) rfl rfl rfl rfl) (fun _ _ _ _ h => h)) (pa_cons (pv 16) (pa_cons pe_int pa_nil)))) (blkOk_by (N := ["script", "dice", "bells", "row", "other", "plain", "text", "bell", "swaps", "left", "k", "times", "here", "rings", "ring", "near", "one", "least", "points", "place", "long", "step", "bad", "f"]) (by kernel_rfl)) (fun _ _ _ _ _ => (show PG _ _ (gTup K 3 _) from pg_tup (by rfl) (pgs_cons (pg_name (i := 19) sc_law.nd rfl (by first | exact Or.inl rfl | exact Or.inr rfl)) (pgs_cons (pg_name (i := 20) sc_law.nd rfl (by first | exact Or.inl rfl | exact Or.inr rfl)) (pgs_cons (pg_name (i := 21) sc_law.nd rfl (by first | exact Or.inl rfl | exact Or.inr rfl)) pgs_nil))))) (fun _ _ _ _ _ => pts_nil) (fun _ _ _ _ _ => (pe_op op_mul (pv 20) (pe_ifExp (PW.pt (pw_or (pt_cmpR op_eq (pv 19) pe_int (nomark _)) (pw_or1 (pt_cmpR op_eq (pe_op op_add (pv 19) (pv 20)) (pv 2) (nomark _))))) pe_int pe_int)))) pa_nil)))
      (pss_one (ps_if (pt_cmpR op_ne (pe_call o_music (hr.mono (by decide)) (by rfl) m_music k_music b_music .nil (passes_call (takes_of (E := E) rfl rfl rfl rfl) (fun _ _ _ _ h => h)) (pa_cons (pv 16) pa_nil)) (pe_op op_add (pv 18) (pe_op op_mul pe_int (pe_callTy call_int1 (by rfl) B.int (by decide +kernel) (pa_cons (pe_cmpR (r := rEqD K) (op_eqD hr.units) (pv 16) (pe_op op_catA (pe_stepT (pv 5) po_none pe_int) (pe_stepT (pv 5) (po_some pe_int) pe_int)) (nomark _)) pa_nil)))) (nomark _)) (pss_one (ps_ret pe_bl)) pss_nil)))))))))))))))))))))))
      (pss_cons (ps_set (i := 22) sc_law.nd rfl (by first | exact Or.inl rfl | exact Or.inr rfl) (pe_lst (pa_cons (pe_lam TBlaw rfl rfl hmT huT rfl (by decide +kernel)) (pa_cons (pe_lam TBlaw rfl rfl hmT huT rfl (by decide +kernel)) (pa_cons (pe_lam TBlaw rfl rfl hmT huT rfl (by decide +kernel)) (pa_cons (pe_lam TBlaw rfl rfl hmT huT rfl (by decide +kernel)) (pa_cons (pe_lam TBlaw rfl rfl hmT huT rfl (by decide +kernel)) (pa_cons (pe_lam TBlaw rfl rfl hmT huT rfl (by decide +kernel)) (pa_cons (pe_lam TBlaw rfl rfl hmT huT rfl (by decide +kernel)) (pa_cons (pe_lam TBlaw rfl rfl hmT huT rfl (by decide +kernel)) (pa_cons (pe_lam TBlaw rfl rfl hmT huT rfl (by decide +kernel)) (pa_cons (pe_lam TBlaw rfl rfl hmT huT rfl (by decide +kernel)) (pa_cons (pe_lam TBlaw rfl rfl hmT huT rfl (by decide +kernel)) (pa_cons (pe_lam TBlaw rfl rfl hmT huT rfl (by decide +kernel)) (pa_cons (pe_lam TBlaw rfl rfl hmT huT rfl (by decide +kernel)) (pa_cons (pe_lam TBlaw rfl rfl hmT huT rfl (by decide +kernel)) (pa_cons (pe_lam TBlaw rfl rfl hmT huT rfl (by decide +kernel)) (pa_cons (pe_lam TBlaw rfl rfl hmT huT rfl (by decide +kernel)) pa_nil))))))))))))))))))
      (pss_one (ps_ret (pe_and (pe_cmpR (r := rEqD K) (op_eqD hr.units) (pe_lc (own := [("f", 23)]) rfl sc_law.nd (pi_list (pv 22)) (blkOk_by (N := ["script", "dice", "bells", "row", "other", "plain", "text", "bell", "swaps", "left", "k", "times", "here", "rings", "ring", "near", "one", "least", "points", "place", "long", "step", "bad", "f"]) (by kernel_rfl)) (fun _ _ _ _ _ => (pg_name (i := 23) sc_law.nd rfl (by first | exact Or.inl rfl | exact Or.inr rfl))) (fun _ _ _ _ _ => (pts_one (pt_cmpR op_ne (pe_call o__law_told (hr.mono (by decide)) (by rfl) m__law_told k__law_told b__law_told .nil passL (pa_cons (pv 23) pa_nil)) pe_str (nomark _)))) (fun _ _ _ _ _ => pe_int)) (pe_lst pa_nil) (nomark _)) (pe_and (pe_cmpR op_eq (pe_glob (by rfl) g_SIGNS_OF_BELLS.1 g_SIGNS_OF_BELLS.2) pe_str (nomark _)) (pe_and (pe_cmpR op_eq (pe_call o_row_text (hr.mono (by decide)) (by rfl) m_row_text k_row_text b_row_text .nil (passes_call (takes_of (E := E) rfl rfl rfl rfl) (fun _ _ _ _ h => h)) (pa_cons (pe_call o_rounds (hr.mono (by decide)) (by rfl) m_rounds k_rounds b_rounds .nil (passes_call (takes_of (E := E) rfl rfl rfl rfl) (fun _ _ _ _ h => h)) (pa_cons pe_int pa_nil)) pa_nil)) pe_str (nomark _)) (pe_and (pe_cmpR op_eq (pe_call o_music (hr.mono (by decide)) (by rfl) m_music k_music b_music .nil (passes_call (takes_of (E := E) rfl rfl rfl rfl) (fun _ _ _ _ h => h)) (pa_cons (pe_tup (pa_cons pe_int (pa_cons pe_int (pa_cons pe_int (pa_cons pe_int (pa_cons pe_int (pa_cons pe_int pa_nil))))))) pa_nil)) pe_int (nomark _)) (pe_and (pe_cmpR (r := rEqD K) (op_eqD hr.units) (pe_call o_cycles (hr.mono (by decide)) (by rfl) m_cycles k_cycles b_cycles .nil (passes_call (takes_of (E := E) rfl rfl rfl rfl) (fun _ _ _ _ h => h)) (pa_cons (pe_tup (pa_cons pe_int (pa_cons pe_int (pa_cons pe_int pa_nil)))) pa_nil)) (pe_tup (pa_cons (pe_tup (pa_cons pe_int (pa_cons pe_int pa_nil))) (pa_cons (pe_tup (pa_cons pe_int pa_nil)) pa_nil))) (nomark _)) (pe_one (pe_cmpR (r := rEqD K) (op_eqD hr.units) (pe_call o_runs (hr.mono (by decide)) (by rfl) m_runs k_runs b_runs .nil (passes_call (takes_of (E := E) rfl rfl rfl rfl) (fun _ _ _ _ h => h)) (pa_cons (pe_tup (pa_cons pe_int (pa_cons pe_int (pa_cons pe_int pa_nil)))) (pa_cons pe_int pa_nil))) (pe_tup (pa_cons (pe_tup (pa_cons pe_int (pa_cons pe_int (pa_cons (pe_un un_neg pe_int) pa_nil)))) pa_nil)) (nomark _)))))))))))), ?_⟩)
  refine keeps h (by decide) ?_
  rintro ds r o hl ⟨ns, rfl, rfl, rfl⟩
  refine st_seq (M := fun g r => g.length = 24) (st_forX (eix_lst (X := fun ds r' => ∃ p s, ds = [.ref p] ∧ r' = [rl p (diceD s)]) (ep_callN (n := 2) (ea_cons (ev_var rfl) (ea_cons ev_int ea_nil)) rfl ⟨ns, rfl, rfl, rfl⟩ (fun _ _ z => z)) ?_) ?_) ?_
  · rintro d r' ⟨r2, ⟨p, s, rfl, rfl⟩, rfl⟩
    exact ⟨_, rfl, p, s, rfl, rfl⟩
  · rintro ds r1 ⟨p, s, rfl, rfl⟩
    refine ⟨fun i g r => g.length = 24 ∧ (i = 0 → g = [some (.lsq (ns.map D.int))] ++ List.replicate 23 none ∧ r = [rl p (diceD s)]), ⟨rfl, fun _ => ⟨rfl, rfl⟩⟩, ?_, fun g r h => h.1⟩
    rintro i d g r hd ⟨_, hI⟩
    have hi : i = 0 := by
      have := (List.getElem?_eq_some_iff.mp hd).1
      simp at this
      exact this
    subst hi
    simp at hd
    subst hd
    obtain ⟨rfl, rfl⟩ := hI rfl
    refine ⟨_, _, eg_name, ?_⟩
    -- the rolls
    have roll : ∀ {E : XK} (g : G) (m : Int) (te : TE) (s : S3) (rx : Rs), g[1]? = some (some (.ref p)) → 1 ≤ m → m ≤ 1000 → Ev T K te g (rl p (diceD s) :: rx) (.int m) (rl p (diceD s) :: rx) → Ev T K (tCall (spR T K 2 R_roll) [] E (tCons (tVar 1) (tCons te tNil))) g (rl p (diceD s) :: rx) (.int (rollV s m)) (rl p (diceD (rollD s m)) :: rx) := fun g m te s rx hg h1 h2 hte =>
      ev_call1 (n := 2) 0 (ea_cons (ev_var hg) (ea_cons hte ea_nil)) rfl rfl ⟨p, s, m, h1, h2, rfl, rfl, rfl⟩
    have hb := rollV_lt (s := s) (m := 10) (by omega)
    refine sq_set (ev_op ev_int (roll _ 10 _ s [] rfl (by omega) (by omega) ev_int) od_I0i) ?_
    obtain ⟨n, hn⟩ : ∃ n : Nat, 3 + rollV s 10 = (n : Int) := ⟨(3 + rollV s 10).toNat, by omega⟩
    rw [hn]
    have n3 : 3 ≤ n := by omega
    have n12 : n ≤ 12 := by omega
    generalize rollD s 10 = s1
    have rowC : ∀ {E : XK} (g : G) (s : S3), g[1]? = some (some (.ref p)) → g[2]? = some (some (.int (n : Nat))) → Ev T K (tCall (spR T K 2 R_row) [] E (tCons (tVar 1) (tCons (tVar 2) tNil))) g [rl p (diceD s)] (.tux ((rowS s n).1.map D.int)) [rl p (diceD (rowS s n).2)] := fun g s h1 h2 =>
      ev_call1 (n := 2) 0 (ea_cons (ev_var h1) (ea_cons (ev_var h2) ea_nil)) rfl rfl ⟨p, s, n, n12, rfl, rfl, rfl⟩
    have rgE : ∀ (g : G) (r : Rs), g[2]? = some (some (.int (n : Nat))) → Ev T K (tTupRg (tRg2 (tC (.int 1)) (tOp (rI0 fun i j => .int (i + j)) (tVar 2) (tC (.int 1))))) g r (rowD (rng n)) r := fun g r h => by
      have : Ev T K (tTupRg (tRg2 (tC (.int 1)) (tOp (rI0 fun i j => .int (i + j)) (tVar 2) (tC (.int 1))))) g r (.tup (rgD 1 (((n : Int) + 1) - 1).toNat)) r := ev_tupRg (er_2 ev_int (ev_op (ev_var h) ev_int od_I0i)) (by omega) (by omega)
      rw [rg_rng] at this
      exact this
    refine sq_asg (ev_tup (ea_cons (rowC _ _ rfl rfl) (ea_cons (rowC _ _ rfl rfl) (ea_cons (rgE _ _ rfl) ea_nil))) (by simp)) (eg_tup (egs_cons eg_name (egs_cons eg_name (egs_cons eg_name egs_nil))) rfl) ?_
    have p1 := rowS_perm s1 n
    have p2 := rowS_perm (rowS s1 n).2 n
    generalize (rowS (rowS s1 n).2 n).2 = s2
    generalize hother : (rowS (rowS s1 n).2 n).1 = other at p2 ⊢
    generalize hrow : (rowS s1 n).1 = row at p1 ⊢
    have l1 : row.length = n := by rw [p1.length_eq, rng_len]
    have l2 : other.length = n := by rw [p2.length_eq, rng_len]
    have g1 : good row := good_of (by omega) (by omega) (by rw [l1]; exact p1)
    have g2 : good other := good_of (by omega) (by omega) (by rw [l2]; exact p2)
    have l1k : row.length ≤ 1000 := by omega
    have l2k : other.length ≤ 1000 := by omega
    have hrn : rng row.length = rng n := by rw [l1]
    -- the row's parts
    have lcE : ∀ (te tb : TE) (g : G) (r : Rs) (l : List Int) (f : Int → Int), l.length ≤ 100000 → Ev T K te g r (rowD l) r → (∀ b ∈ l, Ev T K tb ((wipeG g [7]).set 7 (some (.int b))) r (.int (f b)) r) → EvN T K (tLc (iTup K te) (gName 7) tYes tb [7]) g r ((l.map f).map D.int) r := fun te tb g r l f hl hte htb => by
      have q := en_lcM (tg := gName 7) (te := tb) (vs := [7]) (ei_tup hte) (by rw [List.length_map]; exact hl) (fun d => match d with | .int b => .int (f b) | _ => .non) fun i d hd => by
        obtain ⟨hi, rfl⟩ := get_int hd
        exact ⟨_, _, eg_name, by simp, htb _ (getD_mem0 hi)⟩
      rw [List.map_map] at q ⊢
      exact q
    have txE : ∀ (g : G) (r : Rs), g[3]? = some (some (.tux (row.map D.int))) → 7 < g.length → EvN T K (tLc (iTup K (tVar 3)) (gName 7) tYes (tOp rIxS (tC (.str SIGNS)) (tOp (rI0 fun i j => .int (i - j)) (tVar 7) (tC (.int 1)))) [7]) g r ((row.map bellC).map sgn) r := fun g r h h7 => by
      have q := en_lcM (tg := gName 7) (te := tOp rIxS (tC (.str SIGNS)) (tOp (rI0 fun i j => .int (i - j)) (tVar 7) (tC (.int 1)))) (vs := [7]) (ei_tup (T := T) (K := K) (r := r) (ev_varW (i := 3) h)) (by rw [List.length_map]; omega) (fun d => match d with | .int b => sgn (bellC b) | _ => .non) fun i d hd => by
        obtain ⟨hi, rfl⟩ := get_int hd
        have hm := (good_mem g1).mp (getD_mem0 hi)
        refine ⟨_, _, eg_name, by simp, ev_op ev_str (ev_op (ev_var ?_) ev_int od_I0i) (od_ixStr signs_sz (by omega) (by rw [signs_len]; omega))⟩
        rw [List.getElem?_set_self]
        simp [wipeG]
        exact h7
      rw [List.map_map] at q ⊢
      exact q
    refine sq_set (ev_joinS (txE _ _ rfl (by simp)).ev vs_f (by rw [List.length_map]; omega)) ?_
    show StD T K E _ [some (.lsq (ns.map D.int)), some (.ref p), some (.int (n : Nat)), some (.tux (row.map D.int)), some (.tux (other.map D.int)), some (rowD (rng n)), some (.str (textOf row)), none, none, none, none, none, none, none, none, none, none, none, none, none, none, none, none, none] [rl p (diceD s2)] _
    have tb := text_back g1
    refine sq_no (et_or2 (et_of_eq (et_test (ev_op (ev_callC (n := 1) ⟨row, l1k, rfl, rfl, (oc_y g1).symm⟩ (ea_cons (ev_varW rfl) ea_nil) rfl) (ev_var rfl) od_neS)) (by simp))
      (et_or2 (et_of_eq (et_test (ev_op (ev_callC (n := 1) ⟨textOf row, by simp [textOf, Str.length]; omega, rfl, rfl, (oc_y ⟨tb.1, by rw [tb.2]; exact g1⟩).symm⟩ (ea_cons (ev_var rfl) ea_nil) rfl) (ev_varW rfl) (od_neD vd_f vd_f (sh_row _) (sh_row _)))) (by rw [eq_row, tb.2]; simp))
      (et_or2 (et_of_eq (et_test (ev_op (ev_callC (n := 1) ⟨n, by omega, rfl, rfl, (oc_y ⟨n3, n12⟩).symm⟩ (ea_cons (ev_var rfl) ea_nil) rfl) (ev_var rfl) (od_neD vd_f vd_f (sh_row _) (sh_row _)))) (by rw [eq_row]; simp))
      (et_test (ev_op (ev_callC (n := 1) ⟨row, l1k, rfl, rfl, (oc_y g1).symm⟩ (ea_cons (ev_varW rfl) ea_nil) rfl) ev_non (od_notN (b := true) fun Hs v hv => by cases hv; rfl)))))) ?_
    have lu : (und row).length = row.length := by simp [und, rng_len]
    have gu := und_good g1
    have undE : ∀ {E : XK} (g : G) (r : Rs), g[3]? = some (some (.tux (row.map D.int))) → Ev T K (tCall (spR T K 1 (R_undone cRow)) [] E (tCons (tVar 3) tNil)) g r (rowD (und row)) r := fun g r h => ev_callC (n := 1) ⟨row, _, l1k, rfl, Or.inl rfl, rfl, (oc_y g1).symm⟩ (ea_cons (ev_var h) ea_nil) rfl
    refine sq_no (et_or2 (et_of_eq (et_test (ev_op (ev_callC (n := 2) ⟨row, other, l1k, l2k, rfl, rfl, (oc_y ⟨g1, g2, by omega⟩).symm⟩ (ea_cons (ev_varW rfl) (ea_cons (ev_varW rfl) ea_nil)) rfl)
        (ev_tux (ev_tupX (lcE (tVar 4) (tOp (rIxT K) (tVar 3) (tOp (rI0 fun i j => .int (i - j)) (tVar 7) (tC (.int 1)))) _ _ other (fun i => row.getD (i - 1).toNat 0) (by omega) (ev_varW rfl) (fun b hb => ev_op (ev_varW rfl) (ev_op (ev_var rfl) ev_int od_I0i) (od_ixRow (by have := (good_mem g2).mp hb; omega) (by have := (good_mem g2).mp hb; omega)))).ev vl_f)) (od_neD vd_f vd_f (sh_row _) (sh_row _)))) (by rw [eq_row]; simp [perm]))
      (et_or2 (et_of_eq (et_test (ev_op (ev_callC (n := 2) ⟨row, und row, l1k, by omega, rfl, rfl, (oc_y ⟨g1, gu, by omega⟩).symm⟩ (ea_cons (ev_varW rfl) (ea_cons (undE _ _ rfl) ea_nil)) rfl) (ev_var rfl) (od_neD vd_f vd_f (sh_row _) (sh_row _)))) (by rw [eq_row, perm_und g1, hrn]; simp))
      (et_of_eq (et_test (ev_op (ev_callC (n := 2) ⟨und row, row, by omega, l1k, rfl, rfl, (oc_y ⟨gu, g1, by omega⟩).symm⟩ (ea_cons (undE _ _ rfl) (ea_cons (ev_varW rfl) ea_nil)) rfl) (ev_var rfl) (od_neD vd_f vd_f (sh_row _) (sh_row _)))) (by rw [eq_row, und_perm g1, hrn]; simp)))) ?_
    refine sq_parEN ev_int (en_listOf (ea_cons (ev_varW rfl) ea_nil) vs_t) fun q => ?_
    refine st_seq (M := fun g r => ∃ (q : Addr) (sw : Nat) (lf : List D) (x7 x10 : Option D), g = [some (.lsq (ns.map D.int)), some (.ref p), some (.int (n : Nat)), some (.tux (row.map D.int)), some (.tux (other.map D.int)), some (rowD (rng n)), some (.str (textOf row)), x7, some (.int (sw : Nat)), some (.ref q), x10] ++ List.replicate 13 none ∧ r = [rl q lf, rl p (diceD s2)] ∧ sw % 2 = invN row n % 2)
      (st_for (ei_rg2 (ea_cons ev_int (ea_cons (ev_op (ev_var rfl) ev_int od_I0i) ea_nil)) (by omega) (by omega)) (fun i g r => ∃ (q : Addr) (sw : Nat) (lf : List Int) (x7 x10 : Option D), g = [some (.lsq (ns.map D.int)), some (.ref p), some (.int (n : Nat)), some (.tux (row.map D.int)), some (.tux (other.map D.int)), some (rowD (rng n)), some (.str (textOf row)), x7, some (.int (sw : Nat)), some (.ref q), x10] ++ List.replicate 13 none ∧ r = [rl q (lf.map D.int), rl p (diceD s2)] ∧
          lf.Perm (rng n) ∧ (∀ j : Nat, j < i → lf.getD j 0 = ((j + 1 : Nat) : Int)) ∧ (invN lf n + sw) % 2 = invN row n % 2) ⟨q, 0, row, _, _, rfl, rfl, p1, fun j hj => by omega, rfl⟩ ?_ ?_) ?_
    · rintro i d g r hd ⟨q, sw, lf, x7, x10, rfl, rfl, hp, hpre, hpar⟩
      have hi : i < n := by
        have := (List.getElem?_eq_some_iff.mp hd).1
        simp [rgD] at this
        omega
      have hde : d = .int ((i + 1 : Nat) : Int) := by
        unfold rgD at hd
        rw [List.getElem?_map, List.getElem?_range (by omega)] at hd
        simp at hd
        rw [← hd]
        congr 1
        omega
      subst hde
      refine ⟨_, _, eg_name, ?_⟩
      refine st_while (fun m g r => ∃ (q : Addr) (sw : Nat) (lf : List Int) (x10 : Option D), g = [some (.lsq (ns.map D.int)), some (.ref p), some (.int (n : Nat)), some (.tux (row.map D.int)), some (.tux (other.map D.int)), some (rowD (rng n)), some (.str (textOf row)), some (.int ((i + 1 : Nat) : Int)), some (.int (sw : Nat)), some (.ref q), x10] ++ List.replicate 13 none ∧ r = [rl q (lf.map D.int), rl p (diceD s2)] ∧
          lf.Perm (rng n) ∧ (∀ j : Nat, j < i → lf.getD j 0 = ((j + 1 : Nat) : Int)) ∧ (invN lf n + sw) % 2 = invN row n % 2 ∧ m = lf.idxOf ((i + 1 : Nat) : Int)) (lf.idxOf ((i + 1 : Nat) : Int)) ⟨q, sw, lf, x10, rfl, rfl, hp, hpre, hpar, rfl⟩ ?_
      rintro m g r ⟨q, sw, lf, x10, rfl, rfl, hp, hpre, hpar, rfl⟩
      have hin : ((i + 1 : Nat) : Int) ∈ lf := hp.mem_iff.mpr (rng_mem.mpr ⟨by omega, by omega⟩)
      have hlen : lf.length = n := by rw [hp.length_eq, rng_len]
      refine ⟨_, _, et_test (ev_op (ev_indexL (ev_var rfl) (ev_var rfl) (vl_o 0 rfl) (vl_o 0 rfl) hin) (ev_op (ev_var rfl) ev_int od_I0i) od_neI), fun hb => ?_, fun hb => ?_⟩
      · have hk : lf.idxOf ((i + 1 : Nat) : Int) ≠ i := fun z => by
          rw [z] at hb
          simp at hb
        obtain ⟨k1, k2, k3, k4, k5, k6⟩ := swp_ok hp hi hpre hk
        refine sq_set (ev_indexL (ev_var rfl) (ev_var rfl) (vl_o 0 rfl) (vl_o 0 rfl) hin) ?_
        generalize hkk : lf.idxOf ((i + 1 : Nat) : Int) = k at k1 k2 k3 k4 k5 k6 ⊢
        have ek1 : (((k : Nat) : Int) - 1).toNat = k - 1 := by omega
        have ek2 : (((k : Nat) : Int) + 1).toNat = k + 1 := by omega
        have e2 : EvN T K (tOp rCat (tOp rCat (tSl (rSlL K) (tVar 9) tNoPart (tPart (tOp (rI0 fun i j => .int (i - j)) (tVar 10) (tC (.int 1))))) (tLst (tCons (tOp (rIxL K) (tVar 9) (tVar 10)) (tCons (tOp (rIxL K) (tVar 9) (tOp (rI0 fun i j => .int (i - j)) (tVar 10) (tC (.int 1)))) tNil))))
            (tSl (rSlL K) (tVar 9) (tPart (tOp (rI0 fun i j => .int (i + j)) (tVar 10) (tC (.int 1)))) tNoPart)) ([some (.lsq (ns.map D.int)), some (.ref p), some (.int (n : Nat)), some (.tux (row.map D.int)), some (.tux (other.map D.int)), some (rowD (rng n)), some (.str (textOf row)), some (.int ((i + 1 : Nat) : Int)), some (.int (sw : Nat)), some (.ref q), some (.int (k : Nat))] ++ List.replicate 13 none) [rl q (lf.map D.int), rl p (diceD s2)]
            (cutD (lf.map D.int) none (some (((k : Nat) : Int) - 1)) ++ [.int (lf.getD ((k : Nat) : Int).toNat 0), .int (lf.getD (((k : Nat) : Int) - 1).toNat 0)] ++ cutD (lf.map D.int) (some (((k : Nat) : Int) + 1)) none) [rl q (lf.map D.int), rl p (diceD s2)] := by
          refine en_cat (en_cat (en_slL (ev_var rfl) eo_none (eo_some (ev_op (ev_var rfl) ev_int od_I0i)) (vl_o 0 rfl)).ev (en_lst (ea_cons (ev_op (ev_var rfl) (ev_var rfl) (od_ixLI (vl_o 0 rfl) (by omega) (by omega))) (ea_cons (ev_op (ev_var rfl) (ev_op (ev_var rfl) ev_int od_I0i) (od_ixLI (vl_o 0 rfl) (by omega) (by omega))) ea_nil)) (by simp)).ev vl_f vl_f ?_).ev (en_slL (ev_var rfl) (eo_some (ev_op (ev_var rfl) ev_int od_I0i)) eo_none (vl_o 0 rfl)).ev vl_f vl_f ?_
          · rw [cut_upto (by omega)]; simp; omega
          · rw [cut_upto (by omega), cut_from (by omega)]; simp; omega
        have e3 : cutD (lf.map D.int) none (some (((k : Nat) : Int) - 1)) ++ [.int (lf.getD ((k : Nat) : Int).toNat 0), .int (lf.getD (((k : Nat) : Int) - 1).toNat 0)] ++ cutD (lf.map D.int) (some (((k : Nat) : Int) + 1)) none = (swp lf k).map D.int := by
          rw [cut_upto (by omega), cut_from (by omega), ek1, ek2, Int.toNat_natCast]
          unfold swp
          simp
        rw [e3] at e2
        refine st_nxD 1 (st_parNE e2 (fun q2 => ev_op (ev_var rfl) ev_int od_I0i) fun q2 => ⟨by simp, k - 1, by omega, q2, sw + 1, swp lf k, some (.int (k : Nat)), ?_, rfl, k3, k4, by omega, k5.symm⟩)
        have e4 : ((sw : Nat) : Int) + 1 = ((sw + 1 : Nat) : Int) := by omega
        rw [e4]
        rfl
      · have hk : lf.idxOf ((i + 1 : Nat) : Int) = i := by
          have := of_decide_eq_false hb
          omega
        refine ⟨q, sw, lf, _, _, rfl, rfl, hp, fun j hj => ?_, hpar⟩
        by_cases hji : j < i
        · exact hpre j hji
        · have : j = i := by omega
          subst this
          exact idx_stop hp hi hk
    · rintro g r ⟨q, sw, lf, x7, x10, rfl, rfl, hp, hpre, hpar⟩
      have e9 : (rgD 1 (((n : Int) + 1) - 1).toNat).length = n := by simp [rgD]
      rw [e9] at hpre
      have := pre_done hp hpre
      subst this
      rw [inv_rng] at hpar
      exact ⟨q, sw, _, x7, x10, rfl, rfl, by rw [Nat.zero_add] at hpar; exact hpar⟩
    · rintro g r ⟨q, sw, lf, x7, x10, rfl, rfl, hpar⟩
      refine st_dropA (r1 := [_]) (r2 := [_]) ?_
      have ho : decide (((sw : Nat) : Int) % 2 = 1) = oddV row := by
        unfold oddV
        rw [l1]
        exact decide_eq_decide.mpr (by omega)
      have oddE : ∀ {E : XK} (te : TE) (g : G) (r : Rs) (l : List Int), l.length ≤ 1000 → good l → Ev T K te g r (rowD l) r → Ev T K (tCall (spR T K 1 (R_is_odd cRow)) [] E (tCons te tNil)) g r (.bl (oddV l)) r := fun te g r l hl hg h => ev_callC (n := 1) ⟨l, hl, rfl, rfl, (oc_y hg).symm⟩ (ea_cons h ea_nil) rfl
      refine sq_no (et_or2 (et_of_eq (et_test (ev_op (oddE _ _ _ row l1k g1 (ev_varW rfl)) (ev_op (ev_op (ev_var rfl) ev_int (od_I (by omega))) ev_int od_eqI) od_neB)) (by rw [ho]; simp))
        (et_of_eq (et_test (ev_op (oddE _ _ _ (perm row other) (by simp [perm]; omega) (perm_good g1 g2 (by omega)) (ev_callC (n := 2) ⟨row, other, l1k, l2k, rfl, rfl, (oc_y ⟨g1, g2, by omega⟩).symm⟩ (ea_cons (ev_varW rfl) (ea_cons (ev_varW rfl) ea_nil)) rfl)) (ev_op (oddE _ _ _ row l1k g1 (ev_varW rfl)) (oddE _ _ _ other l2k g2 (ev_varW rfl)) od_neB) od_neB)) (by rw [odd_perm g1 g2 (by omega)]; simp))) ?_
      refine sq_asg (ev_tup (ea_cons ev_int (ea_cons (ev_varW rfl) ea_nil)) (by simp)) (eg_tup (egs_cons eg_name (egs_cons eg_name egs_nil)) rfl) ?_
      obtain ⟨o1, o2, o3⟩ := pow_ord g1
      refine st_seq (M := fun g r => ∃ (x7 : Option D) (hr : List Int), g = [some (.lsq (ns.map D.int)), some (.ref p), some (.int (n : Nat)), some (.tux (row.map D.int)), some (.tux (other.map D.int)), some (rowD (rng n)), some (.str (textOf row)), x7, some (.int (sw : Nat)), some (.ref q), x10, some (.int (ordV row : Nat)), some (rowD hr)] ++ List.replicate 11 none ∧ r = [rl p (diceD s2)])
        (st_while (fun m g r => ∃ (t : Nat) (x7 : Option D), g = [some (.lsq (ns.map D.int)), some (.ref p), some (.int (n : Nat)), some (.tux (row.map D.int)), some (.tux (other.map D.int)), some (rowD (rng n)), some (.str (textOf row)), x7, some (.int (sw : Nat)), some (.ref q), x10, some (.int (t : Nat)), some (rowD (powR row t))] ++ List.replicate 11 none ∧ r = [rl p (diceD s2)] ∧ 1 ≤ t ∧ t ≤ ordV row ∧ m = ordV row - t) (ordV row - 1) ⟨1, x7, by rw [pow_one g1]; rfl, rfl, Nat.le_refl _, o1, rfl⟩ ?_) ?_
      · rintro m g r ⟨t, x7, rfl, rfl, t1, t2, rfl⟩
        refine ⟨_, _, et_test (ev_op (ev_var rfl) (ev_var rfl) (od_neD vd_f vd_f (sh_row _) (sh_row _))), fun hb => ?_, fun hb => ?_⟩
        · rw [eq_row] at hb
          have hne : powR row t ≠ rng n := by simpa using hb
          have tlt : t < ordV row := by
            rcases Nat.lt_or_ge t (ordV row) with z | z
            · exact z
            · have : t = ordV row := by omega
              rw [this, o2, hrn] at hne
              exact (hne rfl).elim
          refine st_asg (ev_tup (ea_cons (ev_tux (ev_tupX (lcE (tVar 3) (tOp (rIxT K) (tVar 12) (tOp (rI0 fun i j => .int (i - j)) (tVar 7) (tC (.int 1)))) _ _ row (fun b => (powR row t).getD (b - 1).toNat 0) (by omega) (ev_varW rfl) (fun b hb => ev_op (ev_var rfl) (ev_op (ev_var rfl) ev_int od_I0i) (od_ixRow (by have := (good_mem g1).mp hb; omega) (by have := (good_mem g1).mp hb; have := pow_len row t; omega)))).ev vl_f)) (ea_cons (ev_op (ev_var rfl) ev_int od_I0i) ea_nil)) (by simp)) (eg_tup (egs_cons eg_name (egs_cons eg_name egs_nil)) rfl) ?_
          refine ⟨ordV row - (t + 1), by omega, t + 1, x7, ?_, rfl, by omega, by omega, rfl⟩
          have e4 : ((t : Nat) : Int) + 1 = ((t + 1 : Nat) : Int) := by omega
          rw [e4]
          rfl
        · rw [eq_row] at hb
          have he : powR row t = rng n := by simpa using hb
          have teq : t = ordV row := by
            rcases Nat.lt_or_ge t (ordV row) with z | z
            · exact (o3 t t1 z (by rw [hrn]; exact he)).elim
            · omega
          subst teq
          exact ⟨x7, _, rfl, rfl⟩
      · rintro g r ⟨x7, hr', rfl, rfl⟩
        have hcl := cyc_len g1
        refine sq_set (ev_callC (n := 1) ⟨row, l1k, rfl, rfl, (oc_y g1).symm⟩ (ea_cons (ev_varW rfl) ea_nil) rfl) ?_
        show StD T K E _ ([some (.lsq (ns.map D.int)), some (.ref p), some (.int (n : Nat)), some (.tux (row.map D.int)), some (.tux (other.map D.int)), some (rowD (rng n)), some (.str (textOf row)), x7, some (.int (sw : Nat)), some (.ref q), x10, some (.int (ordV row : Nat)), some (rowD hr'), some (.tup ((cyc row).map rowD))] ++ List.replicate 10 none) [rl p (diceD s2)] _
        have hcn : (cyc row).length ≤ 12 := by
          have := (srt_perm (cyc row).flatten).length_eq
          rw [cyc_flat g1, rng_len] at this
          have h2 : (cyc row).length ≤ (cyc row).flatten.length := by
            clear this
            generalize cyc row = cc at hcl
            induction cc with
            | nil => simp
            | cons a cc ih =>
              rw [List.flatten_cons, List.length_append, List.length_cons]
              have h3 := List.length_pos_iff.mpr (hcl a (by simp)).1
              have h4 := ih fun x hx => hcl x (by simp [hx])
              omega
          omega
        have getR : ∀ {i : Nat} {d : D}, ((cyc row).map rowD)[i]? = some d → ∃ ring, ring ∈ cyc row ∧ d = rowD ring := fun {i d} h => by
          rw [List.getElem?_map] at h
          cases hq : (cyc row)[i]? with
          | none => rw [hq] at h; cases h
          | some ring => rw [hq] at h; cases h; exact ⟨ring, List.mem_of_getElem? hq, rfl⟩
        have hne : cyc row ≠ [] := fun z => by
          have := cyc_flat g1
          rw [z] at this
          have h2 := congrArg List.length this
          rw [rng_len] at h2
          simp [srt] at h2
          omega
        have sumE : ∀ (g : G) (r : Rs), g[13]? = some (some (.tup ((cyc row).map rowD))) → 14 < g.length → EvN T K (tCB (rSortedX K) (tCons (tCB (rSumL K) (tCons (tLc (iTup K (tVar 13)) (gName 14) tYes (tCB (rListOfX K) (tCons (tVar 14) tNil)) [14]) (tCons (tLst tNil) tNil))) tNil)) g r ((rng row.length).map D.int) r := fun g r h h14 => by
          have q1 := en_lcM (tg := gName 14) (te := tCB (rListOfX K) (tCons (tVar 14) tNil)) (vs := [14]) (ei_tup (T := T) (K := K) (r := r) (ev_var (i := 13) h)) (by rw [List.length_map]; omega) (fun d => match d with | .tup l => .lst l | _ => .non) fun i d hd => by
            obtain ⟨ring, hr, rfl⟩ := getR hd
            refine ⟨_, _, eg_name, by simp, (en_listOf (ea_cons (ev_var ?_) ea_nil) vs_t).ev⟩
            rw [List.getElem?_set_self]
            simp [wipeG]
            exact h14
          rw [List.map_map] at q1
          have e1 : (cyc row).map ((fun d => match d with | .tup l => D.lst l | _ => .non) ∘ rowD) = ((cyc row).map (List.map D.int)).map D.lst := by
            rw [List.map_map]
            rfl
          rw [e1] at q1
          have q2 := en_sumL (ea_cons q1.ev (ea_cons (en_lst (T := T) (K := K) ea_nil (by simp)).ev ea_nil)) vl_f (by simpa using hne) (by rw [← List.map_flatten, List.length_map, ← (srt_perm _).length_eq, cyc_flat g1, rng_len]; omega)
          rw [← List.map_flatten] at q2
          have q3 := en_sorted (ea_cons q2.ev ea_nil) vs_f
          rw [cyc_flat g1] at q3
          exact q3
        have hdE : ∀ (g : G) (r : Rs), g[13]? = some (some (.tup ((cyc row).map rowD))) → 14 < g.length → EvN T K (tLc (iTup K (tVar 13)) (gName 14) tYes (tOp (rIxT K) (tVar 14) (tC (.int 0))) [14]) g r (((cyc row).map fun x => x.getD 0 0).map D.int) r := fun g r h h14 => by
          have q1 := en_lcM (tg := gName 14) (te := tOp (rIxT K) (tVar 14) (tC (.int 0))) (vs := [14]) (ei_tup (T := T) (K := K) (r := r) (ev_var (i := 13) h)) (by rw [List.length_map]; omega) (fun d => match d with | .tup l => l.getD 0 .non | _ => .non) fun i d hd => by
            obtain ⟨ring, hr, rfl⟩ := getR hd
            have hpos := List.length_pos_iff.mpr (hcl ring hr).1
            refine ⟨_, _, eg_name, by simp, ev_op (ev_var (d := rowD ring) ?_) ev_int (od_ixTup (by omega) (by rw [List.length_map]; omega))⟩
            rw [List.getElem?_set_self]
            simp [wipeG]
            exact h14
          rw [List.map_map] at q1
          have e1 : (cyc row).map ((fun d => match d with | .tup l => l.getD 0 D.non | _ => .non) ∘ rowD) = ((cyc row).map fun x => x.getD 0 0).map D.int := by
            rw [List.map_map]
            refine List.map_congr_left fun x hx => ?_
            have hpos := List.length_pos_iff.mpr (hcl x hx).1
            simp [List.getD_eq_getElem?_getD, List.getElem?_map, List.getElem?_eq_getElem hpos]
          rw [e1] at q1
          exact q1
        have mnE : ∀ (g : G) (r : Rs), g[13]? = some (some (.tup ((cyc row).map rowD))) → 14 < g.length → EvN T K (tLc (iTup K (tVar 13)) (gName 14) tYes (tCB (rMinT K) (tCons (tVar 14) tNil)) [14]) g r (((cyc row).map minI).map D.int) r := fun g r h h14 => by
          have q1 := en_lcM (tg := gName 14) (te := tCB (rMinT K) (tCons (tVar 14) tNil)) (vs := [14]) (ei_tup (T := T) (K := K) (r := r) (ev_var (i := 13) h)) (by rw [List.length_map]; omega) (fun d => match d with | .tup l => .int (minI (l.map fun d => match d with | .int i => i | _ => 0)) | _ => .non) fun i d hd => by
            obtain ⟨ring, hr, rfl⟩ := getR hd
            have e2 : (ring.map D.int).map (fun d => match d with | .int i => i | _ => 0) = ring := by
              rw [List.map_map]
              exact List.map_id _
            refine ⟨_, _, eg_name, by simp, ?_⟩
            show Ev T K _ _ _ (.int (minI ((ring.map D.int).map _))) _
            rw [e2]
            refine ev_cb (ea_cons (ev_var (d := rowD ring) ?_) ea_nil) (ca_minT (hcl ring hr).1)
            rw [List.getElem?_set_self]
            simp [wipeG]
            exact h14
          rw [List.map_map] at q1
          have e1 : (cyc row).map ((fun d => match d with | .tup l => D.int (minI (l.map fun d => match d with | .int i => i | _ => 0)) | _ => .non) ∘ rowD) = ((cyc row).map minI).map D.int := by
            rw [List.map_map]
            refine List.map_congr_left fun x hx => ?_
            show D.int (minI ((x.map D.int).map _)) = D.int (minI x)
            rw [List.map_map]
            congr 2
            exact List.map_id _
          rw [e1] at q1
          exact q1
        refine sq_no (et_or2 (et_of_eq (et_test (ev_op (ev_callC (n := 1) ⟨row, l1k, rfl, rfl, (oc_y g1).symm⟩ (ea_cons (ev_varW rfl) ea_nil) rfl) (ev_var rfl) od_neI)) (by simp))
          (et_or2 (et_of_eq (et_test (ev_op (sumE _ _ rfl (by simp)).ev (en_listOf (ea_cons (ev_var rfl) ea_nil) vs_t).ev (od_neD vd_f vd_f (sh_il _) (sh_il _)))) (by rw [eq_il, hrn]; simp))
          (et_of_eq (et_test (ev_op (hdE _ _ rfl (by simp)).ev (en_sorted (ea_cons (mnE _ _ rfl (by simp)).ev ea_nil) vs_f).ev (od_neD vd_f vd_f (sh_il _) (sh_il _)))) (by rw [eq_il, cyc_heads g1]; simp)))) ?_
        refine st_seq (M := fun g r => ∃ (x7 x14 : Option D), g = [some (.lsq (ns.map D.int)), some (.ref p), some (.int (n : Nat)), some (.tux (row.map D.int)), some (.tux (other.map D.int)), some (rowD (rng n)), some (.str (textOf row)), x7, some (.int (sw : Nat)), some (.ref q), x10, some (.int (ordV row : Nat)), some (rowD hr'), some (.tup ((cyc row).map rowD)), x14] ++ List.replicate 9 none ∧ r = [rl p (diceD s2)])
          (st_for (ei_tup (ev_var rfl)) (fun i g r => ∃ (x7 x14 : Option D), g = [some (.lsq (ns.map D.int)), some (.ref p), some (.int (n : Nat)), some (.tux (row.map D.int)), some (.tux (other.map D.int)), some (rowD (rng n)), some (.str (textOf row)), x7, some (.int (sw : Nat)), some (.ref q), x10, some (.int (ordV row : Nat)), some (rowD hr'), some (.tup ((cyc row).map rowD)), x14] ++ List.replicate 9 none ∧ r = [rl p (diceD s2)]) ⟨x7, none, rfl, rfl⟩ ?_ fun g r h => h) ?_
        · rintro i d g r hd ⟨x7, x14, rfl, rfl⟩
          obtain ⟨ring, hr, rfl⟩ := getR hd
          have hl12 := (hcl ring hr).2
          have hmem : ∀ b ∈ ring, b ∈ row := fun b hb => by
            have : b ∈ (cyc row).flatten := List.mem_flatten.mpr ⟨ring, hr, hb⟩
            rw [← (srt_perm (cyc row).flatten).mem_iff, cyc_flat g1, ← (good_perm g1).mem_iff] at this
            exact this
          refine ⟨_, _, eg_name, ?_⟩
          refine st_if (b := false) (et_of_eq (et_test (ev_op (lcE (tVar 14) (tOp (rIxT K) (tVar 3) (tOp (rI0 fun i j => .int (i - j)) (tVar 7) (tC (.int 1)))) _ _ ring (stp row) (by omega) (ev_var rfl) (fun b hb => ev_op (ev_varW rfl) (ev_op (ev_var rfl) ev_int od_I0i) (od_ixRow (by have := (good_mem g1).mp (hmem b hb); omega) (by have := (good_mem g1).mp (hmem b hb); omega)))).ev
            (en_listOf (ea_cons (ev_op (ev_slT (ds := ring.map D.int) (ev_var rfl) (eo_some ev_int) eo_none) (ev_slT (ds := ring.map D.int) (ev_var rfl) eo_none (eo_some ev_int)) (od_catT (by rw [cut_from (by omega), cut_upto (by omega)]; simp; omega))) ea_nil) vs_t).ev (od_neD (b := .lst ((ring.drop 1 ++ ring.take 1).map D.int)) vd_f ?_ (sh_il _) (sh_il _)))) ?_) (fun z => by cases z) fun _ => st_next ⟨_, _, rfl, rfl⟩
          · rw [cut_from (by omega), cut_upto (by omega), ← List.map_drop, ← List.map_take, ints_app]
            exact vd_f
          · rw [eq_il, cyc_step g1 ring hr]
            simp
        · rintro g r ⟨x7, x14, rfl, rfl⟩
          have v1 := rollV_lt (s := s2) (m := (n : Int)) (by omega)
          have v2 := rollV_lt (s := rollD s2 n) (m := (n : Int)) (by omega)
          refine sq_set (ev_op (ev_slT (ds := (rng n).map D.int) (ev_var rfl) (eo_some (roll _ n _ s2 [] rfl (by omega) (by omega) (ev_var rfl))) eo_none) (ev_slT (ds := (rng n).map D.int) (ev_var rfl) eo_none (eo_some (roll _ n _ (rollD s2 n) [] rfl (by omega) (by omega) (ev_var rfl)))) (od_catT (by rw [cut_from v1.1, cut_upto v2.1]; simp [rng_len]; omega))) ?_
          rw [cut_from v1.1, cut_upto v2.1, ← List.map_drop, ← List.map_take, ints_app]
          generalize rollD (rollD s2 n) n = s3
          have hln : ((rng n).drop (rollV s2 n).toNat ++ (rng n).take (rollV (rollD s2 n) n).toNat).length ≤ 1000 := by simp [rng_len]; omega
          generalize (rng n).drop (rollV s2 n).toNat ++ (rng n).take (rollV (rollD s2 n) n).toNat = nr0 at hln
          have e5 : ∀ (g : G) (r : Rs), g[15]? = some (some (rowD nr0)) → g[5]? = some (some (rowD (rng n))) → Ev T K (tIf (tTest (tOp (rEqD K) (tCB (rSortedX K) (tCons (tVar 15) tNil)) (tCB (rListOfX K) (tCons (tVar 5) tNil)))) (tVar 15) (tStepT K (tVar 5) tNoPart (tUn (rU fun i => .int (-i)) (tC (.int 1))))) g r (rowD (if srt nr0 = rng n then nr0 else (rng n).reverse)) r := fun g r h15 h5 => by
            refine ev_if (r2 := r) (et_test (ev_op (en_sorted (ea_cons (ev_var h15) ea_nil) vs_t).ev (en_listOf (ea_cons (ev_var h5) ea_nil) vs_t).ev (od_eqD vd_f vd_f (sh_il _) (sh_il _)))) (fun hb => ?_) (fun hb => ?_)
            · rw [eq_il] at hb
              rw [if_pos (by simpa using hb)]
              exact ev_var h15
            · rw [eq_il] at hb
              rw [if_neg (by simpa using hb)]
              have q := ev_stepT (T := T) (K := K) (r := r) (st := -1) (ds := (rng n).map D.int) (ev_var h5) eo_none (ev_neg ev_int) ⟨by decide, by decide⟩ (by rw [stepL_map, rev_step n n12]; simp [rng_len]; omega)
              rw [stepL_map, rev_step n n12] at q
              exact q
          refine sq_set (e5 _ _ rfl rfl) ?_
          have gn : good (if srt nr0 = rng n then nr0 else (rng n).reverse) := by
            split
            · rename_i hs
              have hl0 : nr0.length = n := by rw [← (srt_perm nr0).length_eq, hs, rng_len]
              refine good_of (by omega) (by omega) ?_
              rw [hl0, ← hs]
              exact (srt_perm nr0).symm
            · exact rev_good n3 n12
          have hnl : (if srt nr0 = rng n then nr0 else (rng n).reverse).length = n := by
            split
            · rename_i hs
              rw [← (srt_perm nr0).length_eq, hs, rng_len]
            · simp [rng_len]
          generalize (if srt nr0 = rng n then nr0 else (rng n).reverse) = nr at gn hnl
          refine st_mono (O := { nx := fun g r => g.length = 24 }) ?_ (fun g r h => ⟨h, fun z => by cases z⟩) (fun d r z => z.elim) (fun g r z => z.elim) (fun g r z => z.elim) (fun C r z => z.elim)
          refine st_for (ei_lst (en_lst (ea_cons (ev_varW rfl) (ea_cons (ev_var rfl) ea_nil)) (by simp)).ev) (fun i g r => ∃ (x7 x14 x16 x17 x18 x19 x20 x21 : Option D) (s : S3), g = [some (.lsq (ns.map D.int)), some (.ref p), some (.int (n : Nat)), some (.tux (row.map D.int)), some (.tux (other.map D.int)), some (rowD (rng n)), some (.str (textOf row)), x7, some (.int (sw : Nat)), some (.ref q), x10, some (.int (ordV row : Nat)), some (rowD hr'), some (.tup ((cyc row).map rowD)), x14, some (rowD nr), x16, x17, x18, x19, x20, x21, none, none] ∧ r = [rl p (diceD s)]) ⟨x7, x14, _, _, _, _, _, _, s3, rfl, rfl⟩ ?_ ?_
          · rintro i d g r hd ⟨x7, x14, x16, x17, x18, x19, x20, x21, s, rfl, rfl⟩
            obtain ⟨one, rfl, go, lo⟩ : ∃ one, d = rowD one ∧ good one ∧ one.length = n := by
              have hm := List.mem_of_getElem? hd
              rcases List.mem_cons.mp hm with z | z
              · exact ⟨row, z, g1, l1⟩
              · rcases List.mem_cons.mp z with z | z
                · exact ⟨nr, z, gn, hnl⟩
                · cases z
            refine ⟨_, _, eg_name, ?_⟩
            have v3 := rollV_lt (s := s) (m := 3) (by omega)
            refine sq_set (ev_op ev_int (roll _ 3 _ s [] rfl (by omega) (by omega) ev_int) od_I0i) ?_
            generalize rollD s 3 = s4
            generalize rollV s 3 = v at v3
            have lrE : ∀ {E : XK} (g : G) (r : Rs) (te : TE) (least : Int), g[16]? = some (some (rowD one)) → Ev T K te g r (.int least) r → Ev T K (tCall (spR T K 2 R_lruns) [] E (tCons (tVar 16) (tCons te tNil))) g r (.lst ((lrunsV one least).map tripD)) r := fun g r te least h hte => ev_callC (n := 2) ⟨one, least, by omega, rfl, rfl, rfl⟩ (ea_cons (ev_var h) (ea_cons hte ea_nil)) rfl
            refine sq_no (et_of_eq (et_test (ev_op (en_listOf (ea_cons (ev_callC (n := 2) ⟨one, 2 + v, by omega, rfl, rfl, (oc_y ⟨go, by omega⟩).symm⟩ (ea_cons (ev_var rfl) (ea_cons (ev_var rfl) ea_nil)) rfl) ea_nil) vs_t).ev (lrE _ _ _ (2 + v) rfl (ev_var rfl)) (od_neD vd_f vd_f (sh_trips _) (sh_trips _)))) (by rw [eq_trips _ _ (runs_eq go (by omega))]; rfl)) ?_
            have hlr : (lrunsV one 4).length ≤ 100000 := by
              rw [← runs_eq go (by omega)]
              have := runs_len (l := one) (least := 4)
              omega
            refine sq_set (ev_cb (ea_cons (EvN.ev (r' := [rl p (diceD s4)]) (ds := ((lrunsV one 4).map (ptC n)).map D.int) ?_) ea_nil) (ca_sum vl_f)) ?_
            · have e : ((lrunsV one 4).map tripD).map (fun d => D.int (ptC n (toT d))) = ((lrunsV one 4).map (ptC n)).map D.int := by
                rw [List.map_map, List.map_map]
                rfl
              rw [← e]
              refine en_lcM (ei_lst (lrE _ _ _ 4 rfl ev_int)) (by rw [List.length_map]; exact hlr) _ fun i d hd => ?_
              obtain ⟨t, ht, rfl⟩ := get_trip hd
              refine ⟨_, _, eg_tup (egs_cons eg_name (egs_cons eg_name (egs_cons eg_name egs_nil))) rfl, by simp, ?_⟩
              show Ev T K _ _ _ (.int (t.2.1 * (if t.1 = 0 ∨ t.1 + t.2.1 = (n : Int) then 2 else 1))) _
              refine ev_op (ev_var rfl) (ev_if (r2 := [rl p (diceD s4)]) (d := .int (if t.1 = 0 ∨ t.1 + t.2.1 = (n : Int) then 2 else 1)) (et_or (et_test (ev_op (ev_var rfl) ev_int od_eqI)) fun _ => et_test (ev_op (ev_op (ev_var rfl) (ev_var rfl) od_I0i) (ev_var rfl) od_eqI)) (fun hb => ?_) (fun hb => ?_)) (od_I (Or.inr (by split <;> exact ⟨by decide, by decide⟩)))
              · have : t.1 = 0 ∨ t.1 + t.2.1 = (n : Int) := by simpa using hb
                rw [if_pos this]
                exact ev_int
              · have : ¬ (t.1 = 0 ∨ t.1 + t.2.1 = (n : Int)) := by
                  simp only [Bool.or_eq_false_iff, decide_eq_false_iff_not] at hb
                  exact fun q => q.elim hb.1 hb.2
                rw [if_neg this]
                exact ev_int
            have qE : ∀ (g : G) (r : Rs), g[5]? = some (some (rowD (rng n))) → Ev T K (tOp (rCatA K) (tStepT K (tVar 5) tNoPart (tC (.int 2))) (tStepT K (tVar 5) (tPart (tC (.int 1))) (tC (.int 2)))) g r (rowD (queens n)) r := fun g r h5 => by
              have hq := queens_step n n12
              have hql : (queens n).length ≤ 100000 := by simp [queens, rgI]; omega
              have hql2 := congrArg List.length hq
              rw [List.length_append] at hql2
              have s1 : L2.stepL ((rng n).map D.int) none 2 = (L2.stepL (rng n) none 2).map D.int := stepL_map _ _ _ _
              have s2 : L2.stepL ((rng n).map D.int) (some 1) 2 = (L2.stepL (rng n) (some 1) 2).map D.int := stepL_map _ _ _ _
              have q1 : Ev T K (tStepT K (tVar 5) tNoPart (tC (.int 2))) g r (.tup (L2.stepL ((rng n).map D.int) none 2)) r := ev_stepT (ev_var h5) eo_none ev_int ⟨by decide, by decide⟩ (by rw [s1, List.length_map]; omega)
              have q2 : Ev T K (tStepT K (tVar 5) (tPart (tC (.int 1))) (tC (.int 2))) g r (.tup (L2.stepL ((rng n).map D.int) (some 1) 2)) r := ev_stepT (ev_var h5) (eo_some ev_int) ev_int ⟨by decide, by decide⟩ (by rw [s2, List.length_map]; omega)
              rw [s1] at q1
              rw [s2] at q2
              have q := ev_op q1 q2 (od_catT (by rw [List.length_map, List.length_map]; omega))
              rw [ints_app, hq] at q
              exact q
            refine st_if (b := false) (et_of_eq (et_test (ev_op (ev_callC (n := 1) ⟨one, by omega, rfl, rfl, (oc_y go).symm⟩ (ea_cons (ev_var rfl) ea_nil) rfl) (ev_op (ev_var rfl) (ev_op ev_int (ev_cb (ea_cons (ev_op (ev_var rfl) (qE _ _ rfl) (od_eqD vd_f vd_f (sh_row _) (sh_row _))) ea_nil) ca_intB) (od_I (Or.inl ⟨by decide, by decide⟩))) od_I0i) od_neI)) ?_) (fun z => by cases z) fun _ => st_next ⟨_, _, _, _, _, _, _, _, s4, rfl, rfl⟩
            rw [eq_row, pts_sum, ← runs_eq go (by omega)]
            unfold musV ptsV
            rw [lo]
            by_cases hqn : one = queens n
            · simp [hqn]
            · simp [hqn]
          · rintro g r ⟨x7, x14, x16, x17, x18, x19, x20, x21, s, rfl, rfl⟩
            rfl
  · rintro g r hg
    have hbad : ∀ I ∈ badI, LmOk P w K mg base (L2.CX P w) 5 I (spL T K (Oc.err cRow [])) := lam_all ⟨_, _, o_rounds, m_rounds, k_rounds, b_rounds⟩ ⟨_, _, o_check_row, m_check_row, k_check_row, b_check_row⟩ ⟨_, _, o_row_text, m_row_text, k_row_text, b_row_text⟩ ⟨_, _, o_row_of, m_row_of, k_row_of, b_row_of⟩ ⟨_, _, o_permuted, m_permuted, k_permuted, b_permuted⟩ ⟨_, _, o_undone, m_undone, k_undone, b_undone⟩ ⟨_, _, o_is_odd, m_is_odd, k_is_odd, b_is_odd⟩ ⟨_, _, o_cycles, m_cycles, k_cycles, b_cycles⟩ ⟨_, _, o_order_of, m_order_of, k_order_of, b_order_of⟩ ⟨_, _, o_runs, m_runs, k_runs, b_runs⟩ ⟨_, _, o_music, m_music, k_music, b_music⟩
    have lam1 : ∀ (I : LInfo) (g : G) (r : Rs), I.q = ("law.<locals>.<lambda>" : Str) → Ev T K (tLamV T.ls Pt I) g r (.lam I) r := fun I g r hI => ev_lam (by rw [hI]; exact hmT)
    have e1 : Ev T K _ g r (.lst (badI.map D.lam)) r := EvN.ev (en_lst (T := T) (K := K) (g := g) (r := r) (ds := badI.map D.lam) (ea_cons (lam1 _ _ _ rfl) (ea_cons (lam1 _ _ _ rfl) (ea_cons (lam1 _ _ _ rfl) (ea_cons (lam1 _ _ _ rfl) (ea_cons (lam1 _ _ _ rfl) (ea_cons (lam1 _ _ _ rfl) (ea_cons (lam1 _ _ _ rfl) (ea_cons (lam1 _ _ _ rfl)
      (ea_cons (lam1 _ _ _ rfl) (ea_cons (lam1 _ _ _ rfl) (ea_cons (lam1 _ _ _ rfl) (ea_cons (lam1 _ _ _ rfl) (ea_cons (lam1 _ _ _ rfl) (ea_cons (lam1 _ _ _ rfl) (ea_cons (lam1 _ _ _ rfl) (ea_cons (lam1 _ _ _ rfl) ea_nil)))))))))))))))) (by decide +kernel))
    refine sq_set e1 ?_
    have h22 : (g.set 22 (some (.lst (badI.map D.lam))))[22]? = some (some (.lst (badI.map D.lam))) := by
      rw [List.getElem?_set_self (by omega)]
    have hg' : (g.set 22 (some (.lst (badI.map D.lam)))).length = 24 := by rw [List.length_set]; exact hg
    generalize g.set 22 (some (.lst (badI.map D.lam))) = g' at h22 hg'
    have and2 : ∀ {ta tb : TE}, Ev T K ta g' r (.bl true) r → Ev T K tb g' r (.bl true) r → Ev T K (tAndV ta tb) g' r (.bl true) r := fun h1 h2 => ev_and (a := true) (b := true) h1 fun _ => h2
    have gr : good (rng 12) := good_of (by decide) (by decide) (by decide)
    have gm : good [1, 3, 5, 2, 4, 6] := good_of (by decide) (by decide) (by decide)
    have gc : good [2, 1, 3] := good_of (by decide) (by decide) (by decide)
    have gr3 : good [3, 2, 1] := good_of (by decide) (by decide) (by decide)
    refine st_retA (d := .bl true) (and2 ?_ (and2 ?_ (and2 ?_ (and2 ?_ (and2 ?_ ?_))))) ⟨rfl, rfl⟩
    · refine (ev_op (EvN.ev (en_lcF (ei_lst (ev_var h22)) (by rw [List.length_map, bad_len]; decide) (fun _ => false) (fun _ => .int 1) fun i d hd => ?_)) (en_lst ea_nil (by simp)).ev (od_eqD (a := .lst []) (b := .lst []) ?_ vd_f rfl rfl)).of_eq rfl
      · rw [List.getElem?_map] at hd
        cases hq : badI[i]? with
        | none => rw [hq] at hd; cases hd
        | some I =>
          rw [hq] at hd
          cases hd
          refine ⟨_, _, eg_name, by simp, et_of_eq (et_test (ev_op (ev_callC (n := 1) ⟨I, hbad I (List.mem_of_getElem? hq), rfl, rfl, rfl⟩ (ea_cons (ev_var ?_) ea_nil) rfl) ev_str od_neS)) (by decide), fun z => by cases z⟩
          rw [List.getElem?_set_self]
          simp [wipeG]
          omega
      · have : (List.map D.lam badI).filter (fun _ => false) = [] := by simp
        rw [this]
        exact vd_f
    · exact (ev_op ev_str ev_str od_eqS).of_eq rfl
    · refine (ev_op (ev_callC (n := 1) ⟨rng 12, by decide, rfl, rfl, (oc_y gr).symm⟩ (ea_cons (ev_callC (n := 1) ⟨12, by decide, rfl, rfl, (oc_y (by decide)).symm⟩ (ea_cons ev_int ea_nil) rfl) ea_nil) rfl) ev_str od_eqS).of_eq ?_
      rw [show textOf (rng 12) = ("1234567890ET" : Str) by decide +kernel]
      simp
    · refine (ev_op (ev_callC (n := 1) ⟨[1, 3, 5, 2, 4, 6], by decide, rfl, rfl, (oc_y gm).symm⟩ (ea_cons (ev_tup (ea_cons ev_int (ea_cons ev_int (ea_cons ev_int (ea_cons ev_int (ea_cons ev_int (ea_cons ev_int ea_nil)))))) (by simp)) ea_nil) rfl) ev_int od_eqI).of_eq ?_
      rw [show musV [1, 3, 5, 2, 4, 6] = 10 by decide +kernel]
      simp
    · refine (ev_op (ev_callC (n := 1) ⟨[2, 1, 3], by decide, rfl, rfl, (oc_y gc).symm⟩ (ea_cons (ev_tup (ea_cons ev_int (ea_cons ev_int (ea_cons ev_int ea_nil))) (by simp)) ea_nil) rfl) (ev_tup (ea_cons (ev_tup (ea_cons ev_int (ea_cons ev_int ea_nil)) (by simp)) (ea_cons (ev_tup (ea_cons ev_int ea_nil) (by simp)) ea_nil)) (by simp)) (od_eqD (a := .tup ([[1, 2], [3]].map rowD)) (b := .tup ([[1, 2], [3]].map rowD)) ?_ vd_f rfl rfl)).of_eq ?_
      · rw [show cyc [2, 1, 3] = [[1, 2], [3]] by decide +kernel]
        exact vd_f
      · rfl
    · refine (ev_op (ev_callC (n := 2) ⟨[3, 2, 1], 2, by decide, rfl, rfl, (oc_y ⟨gr3, by decide⟩).symm⟩ (ea_cons (ev_tup (ea_cons ev_int (ea_cons ev_int (ea_cons ev_int ea_nil))) (by simp)) (ea_cons ev_int ea_nil)) rfl) (ev_tup (ea_cons (ev_tup (ea_cons ev_int (ea_cons ev_int (ea_cons (ev_neg ev_int) ea_nil))) (by simp)) ea_nil) (by simp)) (od_eqD (a := .tup ([((0 : Int), (3 : Int), (-1 : Int))].map tripD)) (b := .tup ([((0 : Int), (3 : Int), (-1 : Int))].map tripD)) ?_ vd_f rfl rfl)).of_eq ?_
      · rw [show runsV [3, 2, 1] 2 = [(0, 3, -1)] by decide +kernel]
        exact vd_f
      · rfl
end
end Bs
namespace Bs
open PySem PySem.Spec PyProof.Rows L2 DL LmX
theorem exm_self {K : PySem.W.Frag} {S : Addr} (h1 : PySem.W.subIn K (.ref S) (.type "BaseException") = some true) (h2 : PySem.W.isClsIn K S = true) (h3 : PySem.W.typeIn K (.ref S) = some (.type "type")) (h4 : PySem.W.subIn K (.ref S) (.ref S) = some true) :
    PySem.W.exmOne K (.ref S) (.ref S) = some true := by
  have e1 : (PySem.W.subIn K (.ref S) (.type "BaseException") == some true) = true := by rw [h1] <;> rfl
  have e2 : ((PySem.W.clsIn K S).isSome && PySem.W.typeIn K (.ref S) == some (.type "type")) = true := by
    have h2' : (PySem.W.clsIn K S).isSome = true := h2
    rw [h2', h3] <;> rfl
  show (if (PySem.W.subIn K (.ref S) (.type "BaseException") == some true) = true then (if ((PySem.W.clsIn K S).isSome && PySem.W.typeIn K (.ref S) == some (.type "type")) = true then PySem.W.subIn K (.ref S) (.ref S) else none) else none) = some true
  rw [if_pos e1, if_pos e2]
  exact h4
theorem tab_mk {K : PySem.W.Frag} {x q : Str} {f c P : Addr} {oc oq dV kV doc pm ct : Value} {od dq an : Option Addr} {ar : Arguments} {bd : List Stmt} {sc : Scope} {vq : Array Value} {sl sq : Array (Option Value)} (a : PySem.W.nsIn K mainGlobals x = some (some (.ref f))) (l : K.lookup f = some ⟨oc, od, .func (PySem.W.fnOf x q ar bd sc dV kV doc pm an (.ref c) ct), sl⟩)
    (h : K.lookup c = some ⟨oq, dq, .fields vq, sq⟩) (p : (vq[11]? : Option Value) = some (.ref P)) : PySem.W.tabIn K x = some (c, P) := by
  unfold PySem.W.tabIn
  rw [a]
  simp only [l]
  show (match K.lookup c with | some ⟨_, _, .fields vs, _⟩ => (match (vs[11]? : Option Value) with | some (.ref P) => some (c, P) | _ => none) | _ => none) = some (c, P)
  rw [h]
  simp only [p]
theorem tab_code {K : PySem.W.Frag} {x : Str} {f c P : Addr} {oc : Value} {od : Option Addr} {fd : FuncData} {sl : Array (Option Value)} (a : PySem.W.nsIn K mainGlobals x = some (some (.ref f))) (l : K.lookup f = some ⟨oc, od, .func fd, sl⟩) (t : PySem.W.tabIn K x = some (c, P)) : fd.code = .ref c := by
  unfold PySem.W.tabIn at t
  rw [a] at t
  simp only [l] at t
  split at t
  · rename_i e
    rw [e]
    split at t
    · split at t
      · cases t
        rfl
      · cases t
    · cases t
  · cases t
theorem all_mk {l : PySem.W.OpenLaw} {w : World} {q : Program} {loose : List Str} {XP : (Str → Option Value) → Heap → Prop} {s₀ : Shared} {mb : Str → Option Value} {h : Heap} {K : PySem.W.Frag} {mg : Str → Option Value} {fa cRow : Addr} {tS : Tok} {f0 f1 f2 f3 f4 f5 f6 f7 f8 f9 f10 f11 f12 f13 f14 f15 f16 f17 : Addr} {od0 an0 od1 an1 od2 an2 od3 an3 od4 an4 od5 an5 od6 an6 od7 an7 od8 an8 od9 an9 od10 an10 od11 an11 od12 an12 od13 an13 od14 an14 od15 an15 od16 an16 od17 an17 : Option Addr} {sl0 sl1 sl2 sl3 sl4 sl5 sl6 sl7 sl8 sl9 sl10 sl11 sl12 sl13 sl14 sl15 sl16 sl17 : Array (Option Value)} {oc0 kV0 dc0 pm0 cd0 ct0 oc1 kV1 dc1 pm1 cd1 ct1 oc2 kV2 dc2 pm2 cd2 ct2 oc3 kV3 dc3 pm3 cd3 ct3 oc4 kV4 dc4 pm4 cd4 ct4 oc5 kV5 dc5 pm5 cd5 ct5 oc6 kV6 dc6 pm6 cd6 ct6 oc7 kV7 dc7 pm7 cd7 ct7 oc8 kV8 dc8 pm8 cd8 ct8 oc9 kV9 dc9 pm9 cd9 ct9 oc10 kV10 dc10 pm10 cd10 ct10 oc11 kV11 dc11 pm11 cd11 ct11 oc12 kV12 dc12 pm12 cd12 ct12 oc13 kV13 dc13 pm13 cd13 ct13 oc14 kV14 dc14 pm14 cd14 ct14 oc15 kV15 dc15 pm15 cd15 ct15 oc16 kV16 dc16 pm16 cd16 ct16 oc17 kV17 dc17 pm17 cd17 ct17 : Value} {c_row_of P_row_of c_permuted P_permuted c_undone P_undone c_law P_law : Addr} {oq_row_of oq_permuted oq_undone oq_law : Value} {dq_row_of dq_permuted dq_undone dq_law : Option Addr} {vq_row_of vq_permuted vq_undone vq_law : Array Value} {sq_row_of sq_permuted sq_undone sq_law : Array (Option Value)} (KX : K.In h) (G : PySem.W.Ground q loose [] XP w s₀ mg mb h) (hfa : mg "law" = some (.ref fa))
    (r1 : ∃ d, (recsOf q).find? (fun e => e.name == ("row_of" : Str)) = some d) (r2 : ∃ d, (recsOf q).find? (fun e => e.name == ("permuted" : Str)) = some d) (r3 : ∃ d, (recsOf q).find? (fun e => e.name == ("undone" : Str)) = some d) (r4 : ∃ d, (recsOf q).find? (fun e => e.name == ("law" : Str)) = some d)
    (a0 : PySem.W.nsIn K mainGlobals "rounds" = some (some (.ref f0)))
    (l0 : K.lookup f0 = some ⟨oc0, od0, .func (PySem.W.fnOf "rounds" "rounds" (defArgs s_rounds) (defBody s_rounds) (defScope s_rounds) .none kV0 dc0 pm0 an0 cd0 ct0), sl0⟩)
    (cc0 : PySem.W.codeIn K cd0 "rounds" = true)
    (k0 : PySem.W.keepIn K (.ref f0) = true)
    (a1 : PySem.W.nsIn K mainGlobals "check_row" = some (some (.ref f1)))
    (l1 : K.lookup f1 = some ⟨oc1, od1, .func (PySem.W.fnOf "check_row" "check_row" (defArgs s_check_row) (defBody s_check_row) (defScope s_check_row) .none kV1 dc1 pm1 an1 cd1 ct1), sl1⟩)
    (cc1 : PySem.W.codeIn K cd1 "check_row" = true)
    (k1 : PySem.W.keepIn K (.ref f1) = true)
    (a2 : PySem.W.nsIn K mainGlobals "row_text" = some (some (.ref f2)))
    (l2 : K.lookup f2 = some ⟨oc2, od2, .func (PySem.W.fnOf "row_text" "row_text" (defArgs s_row_text) (defBody s_row_text) (defScope s_row_text) .none kV2 dc2 pm2 an2 cd2 ct2), sl2⟩)
    (cc2 : PySem.W.codeIn K cd2 "row_text" = true)
    (k2 : PySem.W.keepIn K (.ref f2) = true)
    (a3 : PySem.W.nsIn K mainGlobals "row_of" = some (some (.ref f3)))
    (l3 : K.lookup f3 = some ⟨oc3, od3, .func (PySem.W.fnOf "row_of" "row_of" (defArgs s_row_of) (defBody s_row_of) (defScope s_row_of) .none kV3 dc3 pm3 an3 cd3 ct3), sl3⟩)
    (cc3 : PySem.W.codeIn K cd3 "row_of" = true)
    (k3 : PySem.W.keepIn K (.ref f3) = true)
    (a4 : PySem.W.nsIn K mainGlobals "permuted" = some (some (.ref f4)))
    (l4 : K.lookup f4 = some ⟨oc4, od4, .func (PySem.W.fnOf "permuted" "permuted" (defArgs s_permuted) (defBody s_permuted) (defScope s_permuted) .none kV4 dc4 pm4 an4 cd4 ct4), sl4⟩)
    (cc4 : PySem.W.codeIn K cd4 "permuted" = true)
    (k4 : PySem.W.keepIn K (.ref f4) = true)
    (a5 : PySem.W.nsIn K mainGlobals "undone" = some (some (.ref f5)))
    (l5 : K.lookup f5 = some ⟨oc5, od5, .func (PySem.W.fnOf "undone" "undone" (defArgs s_undone) (defBody s_undone) (defScope s_undone) .none kV5 dc5 pm5 an5 cd5 ct5), sl5⟩)
    (cc5 : PySem.W.codeIn K cd5 "undone" = true)
    (k5 : PySem.W.keepIn K (.ref f5) = true)
    (a6 : PySem.W.nsIn K mainGlobals "is_odd" = some (some (.ref f6)))
    (l6 : K.lookup f6 = some ⟨oc6, od6, .func (PySem.W.fnOf "is_odd" "is_odd" (defArgs s_is_odd) (defBody s_is_odd) (defScope s_is_odd) .none kV6 dc6 pm6 an6 cd6 ct6), sl6⟩)
    (cc6 : PySem.W.codeIn K cd6 "is_odd" = true)
    (k6 : PySem.W.keepIn K (.ref f6) = true)
    (a7 : PySem.W.nsIn K mainGlobals "cycles" = some (some (.ref f7)))
    (l7 : K.lookup f7 = some ⟨oc7, od7, .func (PySem.W.fnOf "cycles" "cycles" (defArgs s_cycles) (defBody s_cycles) (defScope s_cycles) .none kV7 dc7 pm7 an7 cd7 ct7), sl7⟩)
    (cc7 : PySem.W.codeIn K cd7 "cycles" = true)
    (k7 : PySem.W.keepIn K (.ref f7) = true)
    (a8 : PySem.W.nsIn K mainGlobals "order_of" = some (some (.ref f8)))
    (l8 : K.lookup f8 = some ⟨oc8, od8, .func (PySem.W.fnOf "order_of" "order_of" (defArgs s_order_of) (defBody s_order_of) (defScope s_order_of) .none kV8 dc8 pm8 an8 cd8 ct8), sl8⟩)
    (cc8 : PySem.W.codeIn K cd8 "order_of" = true)
    (k8 : PySem.W.keepIn K (.ref f8) = true)
    (a9 : PySem.W.nsIn K mainGlobals "runs" = some (some (.ref f9)))
    (l9 : K.lookup f9 = some ⟨oc9, od9, .func (PySem.W.fnOf "runs" "runs" (defArgs s_runs) (defBody s_runs) (defScope s_runs) .none kV9 dc9 pm9 an9 cd9 ct9), sl9⟩)
    (cc9 : PySem.W.codeIn K cd9 "runs" = true)
    (k9 : PySem.W.keepIn K (.ref f9) = true)
    (a10 : PySem.W.nsIn K mainGlobals "music" = some (some (.ref f10)))
    (l10 : K.lookup f10 = some ⟨oc10, od10, .func (PySem.W.fnOf "music" "music" (defArgs s_music) (defBody s_music) (defScope s_music) .none kV10 dc10 pm10 an10 cd10 ct10), sl10⟩)
    (cc10 : PySem.W.codeIn K cd10 "music" = true)
    (k10 : PySem.W.keepIn K (.ref f10) = true)
    (a11 : PySem.W.nsIn K mainGlobals "_law_dice" = some (some (.ref f11)))
    (l11 : K.lookup f11 = some ⟨oc11, od11, .func (PySem.W.fnOf "_law_dice" "_law_dice" (defArgs s__law_dice) (defBody s__law_dice) (defScope s__law_dice) .none kV11 dc11 pm11 an11 cd11 ct11), sl11⟩)
    (cc11 : PySem.W.codeIn K cd11 "_law_dice" = true)
    (k11 : PySem.W.keepIn K (.ref f11) = true)
    (a12 : PySem.W.nsIn K mainGlobals "_law_roll" = some (some (.ref f12)))
    (l12 : K.lookup f12 = some ⟨oc12, od12, .func (PySem.W.fnOf "_law_roll" "_law_roll" (defArgs s__law_roll) (defBody s__law_roll) (defScope s__law_roll) .none kV12 dc12 pm12 an12 cd12 ct12), sl12⟩)
    (cc12 : PySem.W.codeIn K cd12 "_law_roll" = true)
    (k12 : PySem.W.keepIn K (.ref f12) = true)
    (a13 : PySem.W.nsIn K mainGlobals "_law_rounds" = some (some (.ref f13)))
    (l13 : K.lookup f13 = some ⟨oc13, od13, .func (PySem.W.fnOf "_law_rounds" "_law_rounds" (defArgs s__law_rounds) (defBody s__law_rounds) (defScope s__law_rounds) .none kV13 dc13 pm13 an13 cd13 ct13), sl13⟩)
    (cc13 : PySem.W.codeIn K cd13 "_law_rounds" = true)
    (k13 : PySem.W.keepIn K (.ref f13) = true)
    (a14 : PySem.W.nsIn K mainGlobals "_law_told" = some (some (.ref f14)))
    (l14 : K.lookup f14 = some ⟨oc14, od14, .func (PySem.W.fnOf "_law_told" "_law_told" (defArgs s__law_told) (defBody s__law_told) (defScope s__law_told) .none kV14 dc14 pm14 an14 cd14 ct14), sl14⟩)
    (cc14 : PySem.W.codeIn K cd14 "_law_told" = true)
    (k14 : PySem.W.keepIn K (.ref f14) = true)
    (a15 : PySem.W.nsIn K mainGlobals "_law_row" = some (some (.ref f15)))
    (l15 : K.lookup f15 = some ⟨oc15, od15, .func (PySem.W.fnOf "_law_row" "_law_row" (defArgs s__law_row) (defBody s__law_row) (defScope s__law_row) .none kV15 dc15 pm15 an15 cd15 ct15), sl15⟩)
    (cc15 : PySem.W.codeIn K cd15 "_law_row" = true)
    (k15 : PySem.W.keepIn K (.ref f15) = true)
    (a16 : PySem.W.nsIn K mainGlobals "_law_runs" = some (some (.ref f16)))
    (l16 : K.lookup f16 = some ⟨oc16, od16, .func (PySem.W.fnOf "_law_runs" "_law_runs" (defArgs s__law_runs) (defBody s__law_runs) (defScope s__law_runs) .none kV16 dc16 pm16 an16 cd16 ct16), sl16⟩)
    (cc16 : PySem.W.codeIn K cd16 "_law_runs" = true)
    (k16 : PySem.W.keepIn K (.ref f16) = true)
    (a17 : PySem.W.nsIn K mainGlobals "law" = some (some (.ref f17)))
    (l17 : K.lookup f17 = some ⟨oc17, od17, .func (PySem.W.fnOf "law" "law" (defArgs s_law) (defBody s_law) (defScope s_law) .none kV17 dc17 pm17 an17 cd17 ct17), sl17⟩)
    (cc17 : PySem.W.codeIn K cd17 "law" = true)
    (k17 : PySem.W.keepIn K (.ref f17) = true)
    (e_row_of : cd3 = .ref c_row_of)
    (q_row_of : K.lookup c_row_of = some ⟨oq_row_of, dq_row_of, .fields vq_row_of, sq_row_of⟩)
    (p_row_of : (vq_row_of[11]? : Option Value) = some (.ref P_row_of))
    (z_row_of : K.lookup P_row_of = none)
    (e_permuted : cd4 = .ref c_permuted)
    (q_permuted : K.lookup c_permuted = some ⟨oq_permuted, dq_permuted, .fields vq_permuted, sq_permuted⟩)
    (p_permuted : (vq_permuted[11]? : Option Value) = some (.ref P_permuted))
    (z_permuted : K.lookup P_permuted = none)
    (e_undone : cd5 = .ref c_undone)
    (q_undone : K.lookup c_undone = some ⟨oq_undone, dq_undone, .fields vq_undone, sq_undone⟩)
    (p_undone : (vq_undone[11]? : Option Value) = some (.ref P_undone))
    (z_undone : K.lookup P_undone = none)
    (e_law : cd17 = .ref c_law)
    (q_law : K.lookup c_law = some ⟨oq_law, dq_law, .fields vq_law, sq_law⟩)
    (p_law : (vq_law[11]? : Option Value) = some (.ref P_law))
    (z_law : K.lookup P_law = none)
    (n_tuple : PySem.W.nsIn K mainGlobals "tuple" = some none)
    (n_range : PySem.W.nsIn K mainGlobals "range" = some none)
    (n_sorted : PySem.W.nsIn K mainGlobals "sorted" = some none)
    (n_len : PySem.W.nsIn K mainGlobals "len" = some none)
    (n_any : PySem.W.nsIn K mainGlobals "any" = some none)
    (n_list : PySem.W.nsIn K mainGlobals "list" = some none)
    (n_abs : PySem.W.nsIn K mainGlobals "abs" = some none)
    (n_int : PySem.W.nsIn K mainGlobals "int" = some none)
    (n_sum : PySem.W.nsIn K mainGlobals "sum" = some none)
    (n_min : PySem.W.nsIn K mainGlobals "min" = some none)
    (n_zip : PySem.W.nsIn K mainGlobals "zip" = some none)
    (gE : PySem.W.nsIn K mainGlobals "RowError" = some (some (.ref cRow)))
    (kE : PySem.W.keepIn K (.ref cRow) = true)
    (xE : PySem.W.excIn K cRow [.type "ValueError", .type "Exception", .type "BaseException", .type "object"] "ValueError.__new__" = true)
    (bE : PySem.W.subIn K (.ref cRow) (.type "BaseException") = some true)
    (tE : PySem.W.typeIn K (.ref cRow) = some (.type "type"))
    (iE : PySem.W.isClsIn K cRow = true)
    (sE : PySem.W.subIn K (.ref cRow) (.ref cRow) = some true)
    (gS : PySem.W.nsIn K mainGlobals "SIGNS_OF_BELLS" = some (some (.str "1234567890ET" tS)))
    (d1 : P_law ≠ P_row_of)
    (d2 : P_law ≠ P_permuted)
    (d3 : P_law ≠ P_undone) :
    LamX.LawAtS l w K (L2.CX l.prog w) 8 63 "script" mg fa h := by
  have e := hfa.symm.trans (PySem.W.mg_of KX G.T.g a17)
  cases e
  have F0 := fun_mk (st := s_rounds) l0 cc0 k0
  have b0 := F0.binds (ps := ["bells"]) fun _ _ _ _ _ _ us hl => match us, hl with | [_], _ => rfl
  have F1 := fun_mk (st := s_check_row) l1 cc1 k1
  have b1 := F1.binds (ps := ["row"]) fun _ _ _ _ _ _ us hl => match us, hl with | [_], _ => rfl
  have F2 := fun_mk (st := s_row_text) l2 cc2 k2
  have b2 := F2.binds (ps := ["row"]) fun _ _ _ _ _ _ us hl => match us, hl with | [_], _ => rfl
  have F3 := fun_mk (st := s_row_of) l3 cc3 k3
  have b3 := F3.binds (ps := ["text"]) fun _ _ _ _ _ _ us hl => match us, hl with | [_], _ => rfl
  have F4 := fun_mk (st := s_permuted) l4 cc4 k4
  have b4 := F4.binds (ps := ["row", "other"]) fun _ _ _ _ _ _ us hl => match us, hl with | [_, _], _ => rfl
  have F5 := fun_mk (st := s_undone) l5 cc5 k5
  have b5 := F5.binds (ps := ["row"]) fun _ _ _ _ _ _ us hl => match us, hl with | [_], _ => rfl
  have F6 := fun_mk (st := s_is_odd) l6 cc6 k6
  have b6 := F6.binds (ps := ["row"]) fun _ _ _ _ _ _ us hl => match us, hl with | [_], _ => rfl
  have F7 := fun_mk (st := s_cycles) l7 cc7 k7
  have b7 := F7.binds (ps := ["row"]) fun _ _ _ _ _ _ us hl => match us, hl with | [_], _ => rfl
  have F8 := fun_mk (st := s_order_of) l8 cc8 k8
  have b8 := F8.binds (ps := ["row"]) fun _ _ _ _ _ _ us hl => match us, hl with | [_], _ => rfl
  have F9 := fun_mk (st := s_runs) l9 cc9 k9
  have b9 := F9.binds (ps := ["row", "least"]) fun _ _ _ _ _ _ us hl => match us, hl with | [_, _], _ => rfl
  have F10 := fun_mk (st := s_music) l10 cc10 k10
  have b10 := F10.binds (ps := ["row"]) fun _ _ _ _ _ _ us hl => match us, hl with | [_], _ => rfl
  have F11 := fun_mk (st := s__law_dice) l11 cc11 k11
  have b11 := F11.binds (ps := ["cell"]) fun _ _ _ _ _ _ us hl => match us, hl with | [_], _ => rfl
  have F12 := fun_mk (st := s__law_roll) l12 cc12 k12
  have b12 := F12.binds (ps := ["dice", "many"]) fun _ _ _ _ _ _ us hl => match us, hl with | [_, _], _ => rfl
  have F13 := fun_mk (st := s__law_rounds) l13 cc13 k13
  have b13 := F13.binds (ps := ["script", "most"]) fun _ _ _ _ _ _ us hl => match us, hl with | [_, _], _ => rfl
  have F14 := fun_mk (st := s__law_told) l14 cc14 k14
  have b14 := F14.binds (ps := ["what"]) fun _ _ _ _ _ _ us hl => match us, hl with | [_], _ => rfl
  have F15 := fun_mk (st := s__law_row) l15 cc15 k15
  have b15 := F15.binds (ps := ["dice", "bells"]) fun _ _ _ _ _ _ us hl => match us, hl with | [_, _], _ => rfl
  have F16 := fun_mk (st := s__law_runs) l16 cc16 k16
  have b16 := F16.binds (ps := ["row", "least"]) fun _ _ _ _ _ _ us hl => match us, hl with | [_, _], _ => rfl
  have F17 := fun_mk (st := s_law) l17 cc17 k17
  have b17 := F17.binds (ps := ["script"]) fun _ _ _ _ _ _ us hl => match us, hl with | [_], _ => rfl
  subst e_row_of
  have t_row_of := tab_mk a3 l3 q_row_of p_row_of
  have h_row_of := tab_code a3 l3 t_row_of
  subst e_permuted
  have t_permuted := tab_mk a4 l4 q_permuted p_permuted
  have h_permuted := tab_code a4 l4 t_permuted
  subst e_undone
  have t_undone := tab_mk a5 l5 q_undone p_undone
  have h_undone := tab_code a5 l5 t_undone
  subst e_law
  have t_law := tab_mk a17 l17 q_law p_law
  have h_law := tab_code a17 l17 t_law
  obtain ⟨d_row_of, q_row_of⟩ := r1
  obtain ⟨u_row_of, v_row_of⟩ := PySem.W.tab_of G.T KX q_row_of t_row_of
  obtain ⟨d_permuted, q_permuted⟩ := r2
  obtain ⟨u_permuted, v_permuted⟩ := PySem.W.tab_of G.T KX q_permuted t_permuted
  obtain ⟨d_undone, q_undone⟩ := r3
  obtain ⟨u_undone, v_undone⟩ := PySem.W.tab_of G.T KX q_undone t_undone
  obtain ⟨d_law, q_law⟩ := r4
  obtain ⟨u_law, v_law⟩ := PySem.W.tab_of G.T KX q_law t_law
  have B : Bi mg := ⟨PySem.W.mg_none_of KX G.T.g n_tuple, PySem.W.mg_none_of KX G.T.g n_range, PySem.W.mg_none_of KX G.T.g n_sorted, PySem.W.mg_none_of KX G.T.g n_len, PySem.W.mg_none_of KX G.T.g n_any, PySem.W.mg_none_of KX G.T.g n_list, PySem.W.mg_none_of KX G.T.g n_abs, PySem.W.mg_none_of KX G.T.g n_int, PySem.W.mg_none_of KX G.T.g n_sum, PySem.W.mg_none_of KX G.T.g n_min, PySem.W.mg_none_of KX G.T.g n_zip⟩
  have eE : Er K mg "RowError" cRow := ⟨PySem.W.mg_of KX G.T.g gE, kE, xE, bE, tE⟩
  have gS' : mg "SIGNS_OF_BELLS" = some (.str "1234567890ET" tS) ∧ RelV (.str SIGNS) (.str "1234567890ET" tS) := ⟨PySem.W.mg_of KX G.T.g gS, tS, rfl⟩
  have dj : ∀ P ∈ [P_row_of, P_permuted, P_undone], ∀ p ∈ [(P_law, ("law.<locals>.<lambda>" : Str))], p.1 ≠ P := fun P hP p hp => by
    have e : p = (P_law, ("law.<locals>.<lambda>" : Str)) := by simpa using hp
    subst e
    rcases List.mem_cons.mp hP with z | hP
    · rw [z]; exact d1
    rcases List.mem_cons.mp hP with z | hP
    · rw [z]; exact d2
    rcases List.mem_cons.mp hP with z | hP
    · rw [z]; exact d3
    · cases hP
  let T : Tb := { gs := [P_row_of, P_permuted, P_undone], ls := [(P_law, ("law.<locals>.<lambda>" : Str))], dj := dj }
  refine ⟨PySem.W.fnOf "law" "law" (defArgs s_law) (defBody s_law) (defScope s_law) .none kV17 dc17 pm17 an17 (.ref c_law) ct17, [(c_row_of, P_row_of), (c_permuted, P_permuted), (c_undone, P_undone), (c_law, P_law)], spR T K 1 R_law, ?_, ?_, ?_, fun s v => .of_eq rfl, ?_, ?_⟩
  · intro p hp
    simp only [List.mem_cons, List.not_mem_nil, or_false] at hp
    rcases hp with rfl | rfl | rfl | rfl
    · exact v_row_of
    · exact v_permuted
    · exact v_undone
    · exact v_law
  · intro p hp
    simp only [List.mem_cons, List.not_mem_nil, or_false] at hp
    rcases hp with rfl | rfl | rfl | rfl
    · exact z_row_of
    · exact z_permuted
    · exact z_undone
    · exact z_law
  · intro p hp
    simp only [List.mem_cons, List.not_mem_nil, or_false] at hp
    rcases hp with rfl | rfl | rfl | rfl
    · exact u_row_of
    · exact u_permuted
    · exact u_undone
    · exact u_law
  · intro H a ns _ _ hcs hS
    refine ⟨rfl, [.lsq (ns.map D.int)], [], [], H, _, ⟨Ext.refl _, ⟨fun P hP => ?_, fun p hp => ?_⟩, rfl, fun i d e => by simp at e, fun x hx => (nomatch hx), fun p hp => (nomatch hp), List.nodup_nil⟩, .cons (.lsq hS (DRs.ints ns)) .nil, ⟨ns, rfl, rfl, rfl⟩, fun d r' v Hs' H' ho _ _ rv => ?_, fun C r' _ _ hz => hz.elim⟩
    · have hP : P ∈ [P_row_of, P_permuted, P_undone] := hP
      simp only [List.mem_cons, List.not_mem_nil, or_false] at hP
      rcases hP with e | e | e
      · rw [e]; exact ⟨#[], hcs (c_row_of, P_row_of) (by simp), True.intro⟩
      · rw [e]; exact ⟨#[], hcs (c_permuted, P_permuted) (by simp), True.intro⟩
      · rw [e]; exact ⟨#[], hcs (c_undone, P_undone) (by simp), True.intro⟩
    · have hp : p ∈ [(P_law, ("law.<locals>.<lambda>" : Str))] := hp
      have e : p = (P_law, ("law.<locals>.<lambda>" : Str)) := by simpa using hp
      subst e
      exact LamX.TabS.nil (hcs (c_law, P_law) (by simp))
    · obtain ⟨rfl, _⟩ := ho
      cases rv
      rfl
  · intro base KB GB hTB
    have TBrow_of := hTB (c_row_of, P_row_of) (by simp)
    have TBpermuted := hTB (c_permuted, P_permuted) (by simp)
    have TBundone := hTB (c_undone, P_undone) (by simp)
    have TBlaw := hTB (c_law, P_law) (by simp)
    have C_rounds : Cal l.prog w K mg base T "rounds" 1 ["bells"] (R_rounds cRow) := ⟨⟨_, _, ok_rounds F0 B eE, PySem.W.mg_of KX G.T.g a0, k0, b0⟩⟩
    have C_check_row : Cal l.prog w K mg base T "check_row" 2 ["row"] (R_check_row cRow) := ⟨⟨_, _, ok_check_row F1 B eE C_rounds, PySem.W.mg_of KX G.T.g a1, k1, b1⟩⟩
    have C_row_text : Cal l.prog w K mg base T "row_text" 3 ["row"] (R_row_text cRow) := ⟨⟨_, _, ok_row_text F2 B gS' C_check_row, PySem.W.mg_of KX G.T.g a2, k2, b2⟩⟩
    have C_row_of : Cal l.prog w K mg base T "row_of" 3 ["text"] (R_row_of cRow) := ⟨⟨_, _, ok_row_of F3 h_row_of B ⟨TBrow_of.code, TBrow_of.bm, TBrow_of.gP⟩ (by show _ ∈ [P_row_of, P_permuted, P_undone]; simp) eE gS' C_check_row, PySem.W.mg_of KX G.T.g a3, k3, b3⟩⟩
    have C_permuted : Cal l.prog w K mg base T "permuted" 3 ["row", "other"] (R_permuted cRow) := ⟨⟨_, _, ok_permuted F4 h_permuted B ⟨TBpermuted.code, TBpermuted.bm, TBpermuted.gP⟩ (by show _ ∈ [P_row_of, P_permuted, P_undone]; simp) eE C_check_row, PySem.W.mg_of KX G.T.g a4, k4, b4⟩⟩
    have C_undone : Cal l.prog w K mg base T "undone" 3 ["row"] (R_undone cRow) := ⟨⟨_, _, ok_undone F5 h_undone B ⟨TBundone.code, TBundone.bm, TBundone.gP⟩ (by show _ ∈ [P_row_of, P_permuted, P_undone]; simp) C_rounds C_check_row, PySem.W.mg_of KX G.T.g a5, k5, b5⟩⟩
    have C_is_odd : Cal l.prog w K mg base T "is_odd" 3 ["row"] (R_is_odd cRow) := ⟨⟨_, _, ok_is_odd F6 B C_check_row, PySem.W.mg_of KX G.T.g a6, k6, b6⟩⟩
    have C_cycles : Cal l.prog w K mg base T "cycles" 3 ["row"] (R_cycles cRow) := ⟨⟨_, _, ok_cycles F7 B C_rounds C_check_row, PySem.W.mg_of KX G.T.g a7, k7, b7⟩⟩
    have C_order_of : Cal l.prog w K mg base T "order_of" 4 ["row"] (R_order_of cRow) := ⟨⟨_, _, ok_order_of F8 B C_cycles, PySem.W.mg_of KX G.T.g a8, k8, b8⟩⟩
    have C_runs : Cal l.prog w K mg base T "runs" 3 ["row", "least"] (R_runs cRow) := ⟨⟨_, _, ok_runs F9 B eE C_check_row, PySem.W.mg_of KX G.T.g a9, k9, b9⟩⟩
    have C_music : Cal l.prog w K mg base T "music" 4 ["row"] (R_music cRow) := ⟨⟨_, _, ok_music F10 B C_runs, PySem.W.mg_of KX G.T.g a10, k10, b10⟩⟩
    have C_law_dice_ : Cal l.prog w K mg base T "_law_dice" 1 ["cell"] R_dice := ⟨⟨_, _, ok_dice F11 B, PySem.W.mg_of KX G.T.g a11, k11, b11⟩⟩
    have C_law_roll_ : Cal l.prog w K mg base T "_law_roll" 1 ["dice", "many"] R_roll := ⟨⟨_, _, ok_roll F12 (PySem.W.mg_of KX G.T.g a12) k12 b12 B, PySem.W.mg_of KX G.T.g a12, k12, b12⟩⟩
    have C_law_rounds_ : Cal l.prog w K mg base T "_law_rounds" 2 ["script", "most"] R_rounds2 := ⟨⟨_, _, ok_rounds2 F13 B C_law_dice_, PySem.W.mg_of KX G.T.g a13, k13, b13⟩⟩
    have C_law_row_ : Cal l.prog w K mg base T "_law_row" 2 ["dice", "bells"] R_row := ⟨⟨_, _, ok_row F15 B C_law_roll_, PySem.W.mg_of KX G.T.g a15, k15, b15⟩⟩
    have C_law_runs_ : Cal l.prog w K mg base T "_law_runs" 1 ["row", "least"] R_lruns := ⟨⟨_, _, ok_lruns F16 B, PySem.W.mg_of KX G.T.g a16, k16, b16⟩⟩
    have C_law_told_ : Cal l.prog w K mg base T "_law_told" 6 ["what"] (R_told l.prog w K mg base T 5 cRow) := ⟨⟨_, _, ok_told F14 eE (exm_self bE iE tE sE) 5, PySem.W.mg_of KX G.T.g a14, k14, b14⟩⟩
    exact ok_law F17 h_law B TBlaw gS' (by show _ ∈ [(P_law, _)]; simp) (fun p hp _ => by
      have hp : p ∈ [(P_law, ("law.<locals>.<lambda>" : Str))] := hp
      have e : p = (P_law, ("law.<locals>.<lambda>" : Str)) := by simpa using hp
      subst e
      rfl) C_rounds C_check_row C_row_text C_row_of C_permuted C_undone C_is_odd C_cycles C_order_of C_runs C_music C_law_rounds_ C_law_roll_ C_law_row_ C_law_runs_ C_law_told_
/-- the end, with the top's ground -/
theorem walk_G {l : PySem.W.OpenLaw} {n k : Nat} {q : Program} {loose : List Str} {XP : (Str → Option Value) → Heap → Prop} {YP : World → Heap → Prop} {d : DefRec} {K : Params → PySem.W.Frag} {CX : World → CXT} {x : Str}
    (hn : l.most = some n) (hn2 : n ≤ sizeLine) (hdf : d.params.defaults = []) (hr : Room k callerA) (hY : ∀ (w : World) (h : Heap), YP w h → (K w.params).In h)
    (F : ∀ (w : World) (s₀ : Shared) (mg mb : Str → Option Value) (fa : Addr) (h : Heap), PySem.W.Ground q loose [] XP w s₀ mg mb h → YP w h → (K w.params).In h → mg d.name = some (.ref fa) → LamX.LawAtS l w (K w.params) (CX w) k n x mg fa h)
    (hCX : ∀ (w : World) (H : Hp) (s : Shared) (e : Value) (s' : Shared), CX w [] H s (fun _ _ _ => False) e s' → False) :
    PySem.W.WalkO q loose XP YP l.row.toRowW d [] (fun f vs => PySem.call f vs) := by
  refine Att.attach_callB hn hdf fun w s₀ s₁ mg mb fa o pm cd doc a vs ns G Y ho hd hcd hmg hobj hints hlen hbits hg => ?_
  have KX := hY w _ Y
  obtain ⟨fd, cs, sp, hT, nT, C, hb, hsp, hF⟩ := F w s₀ mg mb fa _ G Y KX hmg
  exact LamX.law_callTs KX G.T.g G.T.b G.T.builtins G.T.nolimit hg hT nT C G.T.bmain hobj hints (Nat.le_trans hlen hn2) hr hF hb (fun H hH hS => hsp H a ns hlen hbits hH hS) fun H e s' => hCX w H s₁ e s'
end Bs
open PySem PySem.W PyProof.Rows
set_option maxRecDepth 100000 in
set_option maxHeartbeats 0 in
theorem PySem.Challenge.cw_bellstack_k01_rows_of_bells_holds : PySem.Challenge.rw_bellstack_k01_rows_of_bells.Holds := by
  w_on; o_law; k_head; (case hw => w_witness2)
  k_fill
  refine Bs.walk_G (n := 63) (k := 8) (x := "script") (l := PySem.Challenge.rw_bellstack_k01_rows_of_bells) (CX := fun w => L2.CX PySem.Challenge.rw_bellstack_k01_rows_of_bells.prog w) rfl (by decide) rfl ⟨rfl, by decide, by decide⟩ (fun w h Y => PySem.W.km_in_of Y) ?F (fun w H s e s' z => by obtain ⟨_, _, _, _, _, _, _, _, _, _, _, _, z⟩ := z; exact z)
  case F =>
    intro w s₀ mg mb fa h G Y KX hmg
    refine' Bs.all_mk KX G hmg ⟨_, rfl⟩ ⟨_, rfl⟩ ⟨_, rfl⟩ ⟨_, rfl⟩ ?a0 ?l0 ?cc0 ?k0 ?a1 ?l1 ?cc1 ?k1 ?a2 ?l2 ?cc2 ?k2 ?a3 ?l3 ?cc3 ?k3 ?a4 ?l4 ?cc4 ?k4 ?a5 ?l5 ?cc5 ?k5 ?a6 ?l6 ?cc6 ?k6 ?a7 ?l7 ?cc7 ?k7 ?a8 ?l8 ?cc8 ?k8 ?a9 ?l9 ?cc9 ?k9 ?a10 ?l10 ?cc10 ?k10 ?a11 ?l11 ?cc11 ?k11 ?a12 ?l12 ?cc12 ?k12 ?a13 ?l13 ?cc13 ?k13 ?a14 ?l14 ?cc14 ?k14 ?a15 ?l15 ?cc15 ?k15 ?a16 ?l16 ?cc16 ?k16 ?a17 ?l17 ?cc17 ?k17 ?e_row_of ?q_row_of ?p_row_of ?z_row_of ?e_permuted ?q_permuted ?p_permuted ?z_permuted ?e_undone ?q_undone ?p_undone ?z_undone ?e_law ?q_law ?p_law ?z_law ?n_tuple ?n_range ?n_sorted ?n_len ?n_any ?n_list ?n_abs ?n_int ?n_sum ?n_min ?n_zip ?gE ?kE ?xE ?bE ?tE ?iE ?sE ?gS ?d1 ?d2 ?d3
    (case a0 => k_is)
    (case l0 => k_is)
    (case cc0 => k_is)
    (case k0 => k_is)
    (case a1 => k_is)
    (case l1 => k_is)
    (case cc1 => k_is)
    (case k1 => k_is)
    (case a2 => k_is)
    (case l2 => k_is)
    (case cc2 => k_is)
    (case k2 => k_is)
    (case a3 => k_is)
    (case l3 => k_is)
    (case cc3 => k_is)
    (case k3 => k_is)
    (case a4 => k_is)
    (case l4 => k_is)
    (case cc4 => k_is)
    (case k4 => k_is)
    (case a5 => k_is)
    (case l5 => k_is)
    (case cc5 => k_is)
    (case k5 => k_is)
    (case a6 => k_is)
    (case l6 => k_is)
    (case cc6 => k_is)
    (case k6 => k_is)
    (case a7 => k_is)
    (case l7 => k_is)
    (case cc7 => k_is)
    (case k7 => k_is)
    (case a8 => k_is)
    (case l8 => k_is)
    (case cc8 => k_is)
    (case k8 => k_is)
    (case a9 => k_is)
    (case l9 => k_is)
    (case cc9 => k_is)
    (case k9 => k_is)
    (case a10 => k_is)
    (case l10 => k_is)
    (case cc10 => k_is)
    (case k10 => k_is)
    (case a11 => k_is)
    (case l11 => k_is)
    (case cc11 => k_is)
    (case k11 => k_is)
    (case a12 => k_is)
    (case l12 => k_is)
    (case cc12 => k_is)
    (case k12 => k_is)
    (case a13 => k_is)
    (case l13 => k_is)
    (case cc13 => k_is)
    (case k13 => k_is)
    (case a14 => k_is)
    (case l14 => k_is)
    (case cc14 => k_is)
    (case k14 => k_is)
    (case a15 => k_is)
    (case l15 => k_is)
    (case cc15 => k_is)
    (case k15 => k_is)
    (case a16 => k_is)
    (case l16 => k_is)
    (case cc16 => k_is)
    (case k16 => k_is)
    (case a17 => k_is)
    (case l17 => k_is)
    (case cc17 => k_is)
    (case k17 => k_is)
    (case e_row_of => exact rfl)
    (case q_row_of => k_is)
    (case p_row_of => exact rfl)
    (case z_row_of => first | kernel_rfl | rfl)
    (case e_permuted => exact rfl)
    (case q_permuted => k_is)
    (case p_permuted => exact rfl)
    (case z_permuted => first | kernel_rfl | rfl)
    (case e_undone => exact rfl)
    (case q_undone => k_is)
    (case p_undone => exact rfl)
    (case z_undone => first | kernel_rfl | rfl)
    (case e_law => exact rfl)
    (case q_law => k_is)
    (case p_law => exact rfl)
    (case z_law => first | kernel_rfl | rfl)
    (case n_tuple => k_is)
    (case n_range => k_is)
    (case n_sorted => k_is)
    (case n_len => k_is)
    (case n_any => k_is)
    (case n_list => k_is)
    (case n_abs => k_is)
    (case n_int => k_is)
    (case n_sum => k_is)
    (case n_min => k_is)
    (case n_zip => k_is)
    (case gE => k_is)
    (case kE => k_is)
    (case xE => k_exc)
    (case bE => k_is)
    (case tE => k_is)
    (case iE => k_is)
    (case sE => first | k_is | rfl)
    (case gS => first | k_is | rfl)
    (case d1 => decide)
    (case d2 => decide)
    (case d3 => decide)
